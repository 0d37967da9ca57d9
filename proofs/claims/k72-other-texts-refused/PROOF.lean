import PyProof.Rows.All
import Wide.All
import OpenK.AllK
import Wide.FinOn
import HandS.ForMost
import HandS.Exc
import HandS.TryOnly
import HandS.ExcOwn
import HandS.WordsExc
import HandS.IsInst
import HandS.Wide
import HandS.Star
import HandS.TupAny
import HandS.FStr
import HandS.Zip
import HandS.TupMul
import KE.DataIsa
import KE.DataEq
import KE.GoesNew
import HandS.RaiseMore
import HandS.Style
import HandS.Dict
import HandS.Ends
import HandS.Conv
import HandS.SortInts
import KE.DataMinMax
import HandS.Defaults
import HandS.MakeKwOnly
import HandS.TupSets
import PyProof.EqAt
import PyProof.EqKinds
import PyProof.TupleCall
import Open.SpecLaws
import KE.OsGo
import HandS.ForSpec
import HandS.ExcField
import HandS.ExcIs
import KE.KExcIs
import PyProof.NeKinds
import HandS.Remove
import PyProof.Rows.IntBool
import KE.SortData
import HandS.Iter
import HandS.Text
import HandS.Small
import KE.KIntText
import PyProof.Rows.ReprOcc
import PySem.Challenge.RW_slipturns_k72_other_texts_refused
set_option Elab.async false
set_option linter.all false
set_option maxRecDepth 100000
set_option maxHeartbeats 4000000
namespace Dl
open PySem PySem.Spec PyProof.Rows L2
structure Bx where
  b : Addr
  k : Bool
  own : List Addr
  inv : Hp → Prop
  mem : b ∈ own
  loc : ∀ H H' : Hp, (∀ a ∈ own, H' a = H a) → (∀ a f, H a = some (.ext f) → H' a = some (.ext f)) → inv H → inv H'
  has : ∀ H : Hp, inv H → ∀ a ∈ own, ∃ o, H a = some o
  ty : ∀ H : Hp, inv H → if k = true then ∃ xs, H b = some (.lst xs) else ∃ kvs, H b = some (.dK kvs)
inductive D where
  | non | bl (b : Bool) | it (i : Int) | st (s : Str) | tp (xs : List D) | ls (xs : List D) | dc (kvs : List (Key × D)) | bx (k : Bool) (P : Bx → Prop)
structure Sta where
  bx : Option Bx
  F : Hp
mutual
inductive Rp (t : Option Bx) (F : Hp) : V → D → Prop where
  | non : Rp t F .non .non
  | bl (b : Bool) : Rp t F (.bl b) (.bl b)
  | it (i : Int) : Rp t F (.int i) (.it i)
  | st (s : Str) : Rp t F (.str s) (.st s)
  | tp {a : Addr} {vs : List V} {ds : List D} : F a = some (.tup vs) → RpL t F vs ds → Rp t F (.ref a) (.tp ds)
  | ls {a : Addr} {vs : List V} {ds : List D} : F a = some (.lst vs) → RpL t F vs ds → Rp t F (.ref a) (.ls ds)
  | dc {a : Addr} {vs : List (Key × V)} {ds : List (Key × D)} : F a = some (.dK vs) → RpK t F vs ds → Rp t F (.ref a) (.dc ds)
  | bx {x : Bx} {P : Bx → Prop} : t = some x → P x → Rp t F (.ref x.b) (.bx x.k P)
inductive RpL (t : Option Bx) (F : Hp) : List V → List D → Prop where
  | nil : RpL t F [] []
  | cons {v : V} {d : D} {vs : List V} {ds : List D} : Rp t F v d → RpL t F vs ds → RpL t F (v :: vs) (d :: ds)
inductive RpK (t : Option Bx) (F : Hp) : List (Key × V) → List (Key × D) → Prop where
  | nil : RpK t F [] []
  | cons {k : Key} {v : V} {d : D} {vs : List (Key × V)} {ds : List (Key × D)} : Rp t F v d → RpK t F vs ds → RpK t F ((k, v) :: vs) ((k, d) :: ds)
end
structure Le (t : Option Bx) (F : Hp) (t' : Option Bx) (F' : Hp) : Prop where
  f : ∀ a o, F a = some o → F' a = some o
  t : ∀ x, t = some x → t' = some x
mutual
theorem Rp.le {t t' : Option Bx} {F F' : Hp} (m : Le t F t' F') : ∀ {v : V} {d : D}, Rp t F v d → Rp t' F' v d
  | _, _, .non => .non
  | _, _, .bl b => .bl b
  | _, _, .it i => .it i
  | _, _, .st s => .st s
  | _, _, .tp e r => .tp (m.f _ _ e) (RpL.le m r)
  | _, _, .ls e r => .ls (m.f _ _ e) (RpL.le m r)
  | _, _, .dc e r => .dc (m.f _ _ e) (RpK.le m r)
  | _, _, .bx e p => .bx (m.t _ e) p
theorem RpL.le {t t' : Option Bx} {F F' : Hp} (m : Le t F t' F') : ∀ {vs : List V} {ds : List D}, RpL t F vs ds → RpL t' F' vs ds
  | _, _, .nil => .nil
  | _, _, .cons r s => .cons (Rp.le m r) (RpL.le m s)
theorem RpK.le {t t' : Option Bx} {F F' : Hp} (m : Le t F t' F') : ∀ {vs : List (Key × V)} {ds : List (Key × D)}, RpK t F vs ds → RpK t' F' vs ds
  | _, _, .nil => .nil
  | _, _, .cons r s => .cons (Rp.le m r) (RpK.le m s)
end
section
variable {t : Option Bx} {F : Hp}
theorem RpL.length : ∀ {vs : List V} {ds : List D}, RpL t F vs ds → vs.length = ds.length
  | _, _, .nil => rfl
  | _, _, .cons _ s => by rw [List.length_cons, List.length_cons, s.length]
theorem RpL.get : ∀ {vs : List V} {ds : List D} {i : Nat} {v : V}, RpL t F vs ds → vs[i]? = some v → ∃ d, ds[i]? = some d ∧ Rp t F v d
  | _, _, _, _, .nil, e => by simp at e
  | _, _, 0, _, .cons r _, e => by simp at e; subst e; exact ⟨_, rfl, r⟩
  | _, _, i + 1, v, .cons _ s, e => by
    obtain ⟨d, h1, h2⟩ := RpL.get (i := i) (v := v) s (by simpa using e)
    exact ⟨d, by simpa using h1, h2⟩
theorem RpL.getD : ∀ {vs : List V} {ds : List D} {i : Nat} {d : D}, RpL t F vs ds → ds[i]? = some d → ∃ v, vs[i]? = some v ∧ Rp t F v d
  | _, _, _, _, .nil, e => by simp at e
  | _, _, 0, _, .cons r _, e => by simp at e; subst e; exact ⟨_, rfl, r⟩
  | _, _, i + 1, v, .cons _ s, e => by
    obtain ⟨d, h1, h2⟩ := RpL.getD (i := i) (d := v) s (by simpa using e)
    exact ⟨d, by simpa using h1, h2⟩
theorem RpL.app : ∀ {vs ws : List V} {ds es : List D}, RpL t F vs ds → RpL t F ws es → RpL t F (vs ++ ws) (ds ++ es)
  | _, _, _, _, .nil, h => h
  | _, _, _, _, .cons r s, h => .cons r (RpL.app s h)
theorem RpL.take : ∀ {vs : List V} {ds : List D} (n : Nat), RpL t F vs ds → RpL t F (vs.take n) (ds.take n)
  | _, _, 0, _ => .nil
  | _, _, _ + 1, .nil => .nil
  | _, _, n + 1, .cons r s => .cons r (RpL.take n s)
theorem RpL.drop : ∀ {vs : List V} {ds : List D} (n : Nat), RpL t F vs ds → RpL t F (vs.drop n) (ds.drop n)
  | _, _, 0, r => r
  | _, _, _ + 1, .nil => .nil
  | _, _, n + 1, .cons _ s => RpL.drop n s
theorem RpL.set {v : V} {d : D} (r : Rp t F v d) : ∀ {vs : List V} {ds : List D} (i : Nat), RpL t F vs ds → RpL t F (vs.set i v) (ds.set i d)
  | _, _, _, .nil => .nil
  | _, _, 0, .cons _ s => .cons r s
  | _, _, i + 1, .cons q s => .cons q (RpL.set r i s)
theorem RpL.one {v : V} {d : D} (r : Rp t F v d) : RpL t F [v] [d] := .cons r .nil
theorem RpL.ints : ∀ (ns : List Int), RpL t F (ns.map V.int) (ns.map D.it)
  | [] => .nil
  | n :: r => .cons (.it n) (RpL.ints r)
end
def InB (t : Option Bx) (a : Addr) : Prop := ∃ x, t = some x ∧ a ∈ x.own
structure Good (S : Sta) (H : Hp) : Prop where
  fz : ∀ a o, S.F a = some o → H a = some o
  bx : ∀ x, S.bx = some x → x.inv H
  nb : ∀ a, InB S.bx a → S.F a = none
theorem Good.box {S : Sta} {H : Hp} (g : Good S H) {a : Addr} (h : InB S.bx a) : ∃ o, H a = some o := by
  obtain ⟨x, e, h⟩ := h
  exact x.has H (g.bx x e) a h
structure Stp (S : Sta) (H : Hp) (S' : Sta) (H' : Hp) : Prop where
  ext : ∀ a o, S.F a = some o → S'.F a = some o
  new : ∀ a o, S'.F a = some o → S.F a = some o ∨ H a = none
  box : S'.bx = S.bx
  keep : ∀ a o, H a = some o → ¬ InB S.bx a → H' a = some o
theorem Stp.refl (S : Sta) (H : Hp) : Stp S H S H := ⟨fun _ _ h => h, fun _ _ h => .inl h, rfl, fun _ _ h _ => h⟩
theorem Stp.le {S S' : Sta} {H H' : Hp} (p : Stp S H S' H') : Le S.bx S.F S'.bx S'.F := ⟨p.ext, fun x e => by rw [p.box]; exact e⟩
theorem none_of_keep {H : Hp} {a : Addr} (h : ∀ o, H a = some o → False) : H a = none := by
  cases e : H a with
  | none => rfl
  | some o => exact (h o e).elim
theorem Stp.free {S S' : Sta} {H H' : Hp} (p : Stp S H S' H') (g : Good S' H') {a : Addr} (h : H' a = none) : H a = none := none_of_keep fun o e => by
  by_cases b : InB S.bx a
  · obtain ⟨x, ex, _⟩ := id b
    have : S'.bx = S.bx := p.box
    obtain ⟨o', e'⟩ := g.box (a := a) (by rw [this]; exact b)
    rw [h] at e'; cases e'
  · rw [p.keep a o e b] at h; cases h
theorem Stp.inB {S S' : Sta} {H H' : Hp} (p : Stp S H S' H') {a : Addr} (h : InB S'.bx a) : InB S.bx a ∨ H a = none := .inl (by rw [p.box] at h; exact h)
theorem Stp.trans {S S1 S2 : Sta} {H H1 H2 : Hp} (p : Stp S H S1 H1) (g : Good S1 H1) (q : Stp S1 H1 S2 H2) : Stp S H S2 H2 where
  ext := fun a o h => q.ext a o (p.ext a o h)
  new := fun a o h => by
    rcases q.new a o h with h | h
    · exact p.new a o h
    · exact .inr (p.free g h)
  box := q.box.trans p.box
  keep := fun a o h b => q.keep a o (p.keep a o h b) fun z => by
    rcases p.inB z with z | z
    · exact b z
    · rw [h] at z; cases z
theorem step_new {S : Sta} {H : Hp} (g : Good S H) {p : Addr} {o : HO} (h : H p = none) :
    Stp S H ⟨S.bx, upd S.F p o⟩ (upd H p o) ∧ Good ⟨S.bx, upd S.F p o⟩ (upd H p o) := by
  have nf : ∀ a o, S.F a = some o → a ≠ p := fun a o e z => by
    have := g.fz a o e
    rw [z, h] at this; cases this
  have nb : ∀ a, InB S.bx a → a ≠ p := fun a e z => by
    obtain ⟨o, q⟩ := g.box e
    rw [z, h] at q; cases q
  refine ⟨⟨fun a u e => (by show upd S.F p o a = some u; rw [upd_ne (nf a u e)]; exact e), fun a u e => ?_, rfl, fun a u e _ => by rw [upd_ne (ne_of_none e h)]; exact e⟩, ⟨fun a u e => ?_, fun x e => ?_, fun a e => ?_⟩⟩
  · by_cases z : a = p
    · rw [z]; exact .inr h
    · have e' : upd S.F p o a = some u := e
      rw [upd_ne z] at e'
      exact .inl e'
  · by_cases z : a = p
    · subst z
      have e' : upd S.F a o a = some u := e
      rw [upd_same] at e' ⊢; exact e'
    · have e' : upd S.F p o a = some u := e
      rw [upd_ne z] at e' ⊢
      exact g.fz a u e'
  · exact x.loc H _ (fun a ha => upd_ne (nb a ⟨x, e, ha⟩)) (fun a f z => by rw [upd_ne (ne_of_none z h)]; exact z) (g.bx x e)
  · show upd S.F p o a = none
    rw [upd_ne (nb a e)]
    exact g.nb a e
theorem step_own {S : Sta} {H : Hp} (g : Good S H) {p : Addr} {o : HO} (h : H p = none) : Stp S H S (upd H p o) ∧ Good S (upd H p o) := by
  have nb : ∀ a, InB S.bx a → a ≠ p := fun a e z => by
    obtain ⟨o, q⟩ := g.box e
    rw [z, h] at q; cases q
  refine ⟨⟨fun a u e => e, fun a u e => .inl e, rfl, fun a u e _ => by rw [upd_ne (ne_of_none e h)]; exact e⟩, ⟨fun a u e => by rw [upd_ne (ne_of_none (g.fz a u e) h)]; exact g.fz a u e, fun x e => ?_, g.nb⟩⟩
  exact x.loc H _ (fun a ha => upd_ne (nb a ⟨x, e, ha⟩)) (fun a f z => by rw [upd_ne (ne_of_none z h)]; exact z) (g.bx x e)
theorem nx_lst {H : Hp} {p : Addr} {xs : List V} (h : H p = some (.lst xs)) : ∀ f, H p ≠ some (.ext f) := fun f z => by rw [h] at z; cases z
theorem nx_dK {H : Hp} {p : Addr} {xs : List (Key × V)} (h : H p = some (.dK xs)) : ∀ f, H p ≠ some (.ext f) := fun f z => by rw [h] at z; cases z
theorem good_mut {S : Sta} {H : Hp} (g : Good S H) {p : Addr} {o : HO} (hx : ∀ f, H p ≠ some (.ext f)) (hf : S.F p = none) (hb : ¬ InB S.bx p) : Good S (upd H p o) := by
  refine ⟨fun a u e => ?_, fun x e => ?_, g.nb⟩
  · have : a ≠ p := fun z => by rw [z, hf] at e; cases e
    rw [upd_ne this]; exact g.fz a u e
  · exact x.loc H _ (fun a ha => upd_ne fun z => hb ⟨x, e, by rw [← z]; exact ha⟩) (fun a f z => by rw [upd_ne (fun y => hx f (by rw [← y]; exact z))]; exact z) (g.bx x e)
theorem good_frz {S : Sta} {H : Hp} (g : Good S H) {p : Addr} {o : HO} (h : H p = some o) (hb : ¬ InB S.bx p) : Good ⟨S.bx, upd S.F p o⟩ H := by
  refine ⟨fun a u e => ?_, g.bx, fun a e => ?_⟩
  · by_cases z : a = p
    · subst z
      have e' : upd S.F a o a = some u := e
      rw [upd_same] at e'; cases e'; exact h
    · have e' : upd S.F p o a = some u := e
      rw [upd_ne z] at e'
      exact g.fz a u e'
  · have : a ≠ p := fun z => hb (by rw [← z]; exact e)
    show upd S.F p o a = none
    rw [upd_ne this]; exact g.nb a e
structure Exn where
  cls : Str
  fs : List (Str × D)
def XD (S : Sta) (H : Hp) (dx : Option Addr) (x : Exn) : Prop :=
  (x.fs = [] ∧ dx = none) ∨ ∃ d fs, dx = some d ∧ H d = some (.xd fs) ∧ ¬ InB S.bx d ∧ Paired (fun (p : Str × V) (q : Str × D) => p.1 = q.1 ∧ Rp S.bx S.F p.2 q.2) fs x.fs
theorem XD.step {S S' : Sta} {H H' : Hp} {dx : Option Addr} {x : Exn} (h : XD S H dx x) (p : Stp S H S' H') : XD S' H' dx x := by
  rcases h with h | ⟨d, fs, h1, h2, h3, h4⟩
  · exact .inl h
  · refine .inr ⟨d, fs, h1, p.keep d _ h2 h3, fun z => ?_, L2.Paired.mapP h4 fun a b k => ⟨k.1, k.2.le p.le⟩⟩
    rcases p.inB z with z | z
    · exact h3 z
    · rw [h2] at z; cases z
theorem XD.more {S S' : Sta} {H H' : Hp} {dx : Option Addr} {x : Exn} (h : XD S H dx x) (hb : S'.bx = S.bx) (le : Le S.bx S.F S'.bx S'.F) (k : ∀ d fs, H d = some (.xd fs) → H' d = some (.xd fs)) : XD S' H' dx x := by
  rcases h with h | ⟨d, fs, h1, h2, h3, h4⟩
  · exact .inl h
  · exact .inr ⟨d, fs, h1, k d fs h2, by rw [hb]; exact h3, L2.Paired.mapP h4 fun a b k => ⟨k.1, k.2.le le⟩⟩
inductive Sl where
  | no | v (d : D) | own (ds : List D) | xn (a : Addr) (dx : Option Addr) (x : Exn)
def SlOk (Z : Hp) (S : Sta) (H : Hp) (s : Option (Option V)) : Sl → Prop
  | .no => True
  | .v d => ∃ x, s = some (some x) ∧ Rp S.bx S.F x d
  | .own ds => ∃ a vs, s = some (some (.ref a)) ∧ H a = some (.lst vs) ∧ S.F a = none ∧ ¬ InB S.bx a ∧ Z a = none ∧ RpL S.bx S.F vs ds
  | .xn a dx x => s = some (some (.ref a)) ∧ XD S H dx x
abbrev Env' := List Sl
structure Rel (Z : Hp) (S : Sta) (H : Hp) (σ : L2.St) (env : Env') : Prop where
  len : σ.length = env.length
  at_ : ∀ (i : Nat) (s : Sl), env[i]? = some s → SlOk Z S H (σ[i]?) s
  sep : ∀ (i j : Nat) (xs ys : List D) (a : Addr), i ≠ j → env[i]? = some (.own xs) → env[j]? = some (.own ys) → σ[i]? = some (some (.ref a)) → σ[j]? ≠ some (some (.ref a))
theorem Rel.step {Z : Hp} {S S' : Sta} {H H' : Hp} {σ : L2.St} {env : Env'} (r : Rel Z S H σ env) (p : Stp S H S' H') : Rel Z S' H' σ env where
  len := r.len
  at_ := fun i s e => by
    have q := r.at_ i s e
    cases s with
    | no => trivial
    | v d => obtain ⟨x, h1, h2⟩ := q; exact ⟨x, h1, h2.le p.le⟩
    | xn a dx x => exact ⟨q.1, q.2.step p⟩
    | own ds =>
      obtain ⟨a, vs, h1, h2, h3, h4, h5, h6⟩ := q
      refine ⟨a, vs, h1, p.keep a _ h2 h4, ?_, ?_, h5, h6.le p.le⟩
      · exact none_of_keep fun o e => by
          rcases p.new a o e with z | z
          · rw [h3] at z; cases z
          · rw [h2] at z; cases z
      · intro z
        rcases p.inB z with z | z
        · exact h4 z
        · rw [h2] at z; cases z
  sep := r.sep
theorem Rel.put {Z : Hp} {S : Sta} {H : Hp} {σ : L2.St} {env : Env'} (r : Rel Z S H σ env) {i : Nat} {x : V} {d : D} (h : Rp S.bx S.F x d) : Rel Z S H (σ.set i (some x)) (env.set i (.v d)) where
  len := by rw [List.length_set, List.length_set]; exact r.len
  at_ := fun j s e => by
    by_cases hj : j = i
    · subst hj
      have hl : j < env.length := by
        have := (List.getElem?_eq_some_iff.mp e).1
        rwa [List.length_set] at this
      rw [List.getElem?_set_self hl] at e
      cases e
      exact ⟨x, by rw [List.getElem?_set_self (by rw [r.len]; exact hl)], h⟩
    · rw [List.getElem?_set_ne (Ne.symm hj)] at e ⊢
      exact r.at_ j s e
  sep := fun j k xs ys a hjk e1 e2 h1 => by
    have n1 : j ≠ i := fun z => by
      subst z
      by_cases hl : j < env.length
      · rw [List.getElem?_set_self hl] at e1; cases e1
      · rw [List.getElem?_eq_none_iff.mpr (by rw [List.length_set]; omega)] at e1; cases e1
    have n2 : k ≠ i := fun z => by
      subst z
      by_cases hl : k < env.length
      · rw [List.getElem?_set_self hl] at e2; cases e2
      · rw [List.getElem?_eq_none_iff.mpr (by rw [List.length_set]; omega)] at e2; cases e2
    rw [List.getElem?_set_ne (Ne.symm n1)] at e1 h1
    rw [List.getElem?_set_ne (Ne.symm n2)] at e2 ⊢
    exact r.sep j k xs ys a hjk e1 e2 h1
theorem Rel.drop_ {Z : Hp} {S : Sta} {H : Hp} {σ : L2.St} {env : Env'} (r : Rel Z S H σ env) (i : Nat) (z : Option V) : Rel Z S H (σ.set i z) (env.set i .no) where
  len := by rw [List.length_set, List.length_set]; exact r.len
  at_ := fun j s e => by
    by_cases hj : j = i
    · subst hj
      have hl : j < env.length := by
        have := (List.getElem?_eq_some_iff.mp e).1
        rwa [List.length_set] at this
      rw [List.getElem?_set_self hl] at e
      cases e
      trivial
    · rw [List.getElem?_set_ne (Ne.symm hj)] at e ⊢
      exact r.at_ j s e
  sep := fun j k xs ys a hjk e1 e2 h1 => by
    have n1 : j ≠ i := fun z => by
      subst z
      by_cases hl : j < env.length
      · rw [List.getElem?_set_self hl] at e1; cases e1
      · rw [List.getElem?_eq_none_iff.mpr (by rw [List.length_set]; omega)] at e1; cases e1
    have n2 : k ≠ i := fun z => by
      subst z
      by_cases hl : k < env.length
      · rw [List.getElem?_set_self hl] at e2; cases e2
      · rw [List.getElem?_eq_none_iff.mpr (by rw [List.length_set]; omega)] at e2; cases e2
    rw [List.getElem?_set_ne (Ne.symm n1)] at e1 h1
    rw [List.getElem?_set_ne (Ne.symm n2)] at e2 ⊢
    exact r.sep j k xs ys a hjk e1 e2 h1
theorem Rel.putOwn {Z : Hp} {S : Sta} {H : Hp} {σ : L2.St} {env : Env'} (r : Rel Z S H σ env) {i : Nat} {p : Addr} {vs : List V} {ds : List D} (h0 : Z p = none) (h1 : H p = some (.lst vs)) (h2 : S.F p = none) (h3 : ¬ InB S.bx p)
    (hn : ∀ (j : Nat) (ys : List D), env[j]? = some (Sl.own ys) → σ[j]? ≠ some (some (V.ref p))) (h : RpL S.bx S.F vs ds) : Rel Z S H (σ.set i (some (.ref p))) (env.set i (.own ds)) where
  len := by rw [List.length_set, List.length_set]; exact r.len
  at_ := fun j s e => by
    by_cases hj : j = i
    · subst hj
      have hl : j < env.length := by
        have := (List.getElem?_eq_some_iff.mp e).1
        rwa [List.length_set] at this
      rw [List.getElem?_set_self hl] at e
      cases e
      exact ⟨p, vs, by rw [List.getElem?_set_self (by rw [r.len]; exact hl)], h1, h2, h3, h0, h⟩
    · rw [List.getElem?_set_ne (Ne.symm hj)] at e ⊢
      exact r.at_ j s e
  sep := fun j k xs ys a hjk e1 e2 q => by
    by_cases hj : j = i
    · subst hj
      have hk : k ≠ j := Ne.symm hjk
      rw [List.getElem?_set_ne (Ne.symm hk)] at e2 ⊢
      have hl : j < σ.length := by
        have := (List.getElem?_eq_some_iff.mp q).1
        rwa [List.length_set] at this
      rw [List.getElem?_set_self hl] at q
      cases q
      exact hn k ys e2
    · rw [List.getElem?_set_ne (Ne.symm hj)] at e1 q
      by_cases hk : k = i
      · subst hk
        intro z
        have hl : k < σ.length := by
          have := (List.getElem?_eq_some_iff.mp z).1
          rwa [List.length_set] at this
        rw [List.getElem?_set_self hl] at z
        cases z
        exact hn j xs e1 q
      · rw [List.getElem?_set_ne (Ne.symm hk)] at e2 ⊢
        exact r.sep j k xs ys a hjk e1 e2 q
theorem Rel.mut {Z : Hp} {S : Sta} {H : Hp} {σ : L2.St} {env : Env'} (r : Rel Z S H σ env) {i : Nat} {a : Addr} {vs : List V} {ds es : List D} (he : env[i]? = some (.own es)) (hs : σ[i]? = some (some (.ref a))) (h : RpL S.bx S.F vs ds) :
    Rel Z S (upd H a (.lst vs)) σ (env.set i (.own ds)) where
  len := by rw [List.length_set]; exact r.len
  at_ := fun j s e => by
    by_cases hj : j = i
    · subst hj
      have hl := (List.getElem?_eq_some_iff.mp he).1
      rw [List.getElem?_set_self hl] at e
      cases e
      obtain ⟨a', ws, q1, q2, q3, q4, q5, q6⟩ := r.at_ j _ he
      rw [hs] at q1; cases q1
      exact ⟨a, vs, hs, upd_same, q3, q4, q5, h⟩
    · rw [List.getElem?_set_ne (Ne.symm hj)] at e
      have q := r.at_ j s e
      cases s with
      | no => trivial
      | v d => exact q
      | xn a' dx x =>
        obtain ⟨a2, ws, q1, q2, q3, q4, q5, q6⟩ := r.at_ i _ he
        rw [hs] at q1; cases q1
        exact ⟨q.1, q.2.more rfl ⟨fun _ _ e => e, fun _ e => e⟩ fun d fs e => by
          have : d ≠ a := fun z => by rw [z, q2] at e; cases e
          rw [upd_ne this]; exact e⟩
      | own us =>
        obtain ⟨b, ws, q1, q2, q3, q4, q5, q6⟩ := q
        have : b ≠ a := fun z => r.sep j i _ _ b hj e he q1 (by rw [z]; exact hs)
        exact ⟨b, ws, q1, by rw [upd_ne this]; exact q2, q3, q4, q5, q6⟩
  sep := fun j k xs ys b hjk e1 e2 q => by
    have own_of : ∀ (m : Nat) (zs : List D), (env.set i (Sl.own ds))[m]? = some (Sl.own zs) → ∃ us, env[m]? = some (Sl.own us) := fun m zs e => by
      by_cases hm : m = i
      · subst hm; exact ⟨_, he⟩
      · rw [List.getElem?_set_ne (Ne.symm hm)] at e; exact ⟨_, e⟩
    obtain ⟨us, e1⟩ := own_of j xs e1
    obtain ⟨ws, e2⟩ := own_of k ys e2
    exact r.sep j k us ws b hjk e1 e2 q
theorem Rel.frz {Z : Hp} {S : Sta} {H : Hp} {σ : L2.St} {env : Env'} (r : Rel Z S H σ env) (g : Good S H) {i : Nat} {es : List D} (he : env[i]? = some (.own es)) :
    ∃ a vs, σ[i]? = some (some (.ref a)) ∧ H a = some (.lst vs) ∧ Z a = none ∧ Good ⟨S.bx, upd S.F a (.lst vs)⟩ H ∧ Le S.bx S.F S.bx (upd S.F a (.lst vs)) ∧ S.F a = none ∧
      Rel Z ⟨S.bx, upd S.F a (.lst vs)⟩ H σ (env.set i (.v (.ls es))) := by
  obtain ⟨a, vs, q1, q2, q3, q4, q5, q6⟩ := r.at_ i _ he
  have le : Le S.bx S.F S.bx (upd S.F a (.lst vs)) := ⟨fun b o e => by
    have : b ≠ a := fun z => by rw [z, q3] at e; cases e
    rw [upd_ne this]; exact e, fun x e => e⟩
  refine ⟨a, vs, q1, q2, q5, good_frz g q2 q4, le, q3, ?_⟩
  refine ⟨by rw [List.length_set]; exact r.len, fun j s e => ?_, fun j k xs ys b hjk e1 e2 q => ?_⟩
  · by_cases hj : j = i
    · subst hj
      rw [List.getElem?_set_self (List.getElem?_eq_some_iff.mp he).1] at e
      cases e
      exact ⟨_, q1, .ls (by show upd S.F a (.lst vs) a = _; exact upd_same) (q6.le le)⟩
    · rw [List.getElem?_set_ne (Ne.symm hj)] at e
      have q := r.at_ j s e
      cases s with
      | no => trivial
      | v d => obtain ⟨x, h1, h2⟩ := q; exact ⟨x, h1, h2.le le⟩
      | xn a' dx x => exact ⟨q.1, q.2.more rfl le fun _ _ e => e⟩
      | own us =>
        obtain ⟨b, ws, p1, p2, p3, p4, p5, p6⟩ := q
        have : b ≠ a := fun z => r.sep j i _ _ b hj e he p1 (by rw [z]; exact q1)
        exact ⟨b, ws, p1, p2, by show upd S.F a (.lst vs) b = none; rw [upd_ne this]; exact p3, p4, p5, p6.le le⟩
  · have n1 : j ≠ i := fun z => by
      subst z
      rw [List.getElem?_set_self (List.getElem?_eq_some_iff.mp he).1] at e1; cases e1
    have n2 : k ≠ i := fun z => by
      subst z
      rw [List.getElem?_set_self (List.getElem?_eq_some_iff.mp he).1] at e2; cases e2
    rw [List.getElem?_set_ne (Ne.symm n1)] at e1
    rw [List.getElem?_set_ne (Ne.symm n2)] at e2
    exact r.sep j k xs ys b hjk e1 e2 q
abbrev DK := D → Prop
abbrev EK := Exn → Prop
def XRep (mg : Str → Option Value) (S : Sta) (H : Hp) (C : Value) (dx : Option Addr) (x : Exn) : Prop :=
  mg x.cls = some C ∧ XD S H dx x
def XLink (mg : Str → Option Value) (S : Sta) (H : Hp) (Ed : EK) (E : XK) : Prop :=
  ∀ C dx H' S' x, Stp S H S' H' → Good S' H' → XRep mg S' H' C dx x → Ed x → E C dx H'
theorem XLink.step {mg : Str → Option Value} {S S' : Sta} {H H' : Hp} {Ed : EK} {E : XK} (l : XLink mg S H Ed E) (p : Stp S H S' H') (g : Good S' H') : XLink mg S' H' Ed E :=
  fun C dx H2 S2 x q g2 r h => l C dx H2 S2 x (p.trans g q) g2 r h
def Cont (S : Sta) (H : Hp) (Qd : DK) (Q : VK) : Prop := ∀ v H' S' x, Stp S H S' H' → Good S' H' → Rp S'.bx S'.F v x → Qd x → Q v H'
theorem Cont.step {S S' : Sta} {H H' : Hp} {Qd : DK} {Q : VK} (c : Cont S H Qd Q) (p : Stp S H S' H') (g : Good S' H') : Cont S' H' Qd Q :=
  fun v H2 S2 x q g2 r h => c v H2 S2 x (p.trans g q) g2 r h
theorem Cont.now {S : Sta} {H : Hp} {Qd : DK} {Q : VK} (c : Cont S H Qd Q) (g : Good S H) {v : V} {x : D} (r : Rp S.bx S.F v x) (h : Qd x) : Q v H := c v H S x (.refl S H) g r h
theorem Cont.tup {S : Sta} {H : Hp} {Qd : DK} {Q : VK} (c : Cont S H Qd Q) (g : Good S H) {vs : List V} {ds : List D} (r : RpL S.bx S.F vs ds) (h : Qd (.tp ds)) : ∀ p, H p = none → Q (.ref p) (upd H p (.tup vs)) := fun p hp => by
  obtain ⟨s, g'⟩ := step_new g (o := .tup vs) hp
  exact c _ _ _ _ s g' (.tp (by show upd S.F p (.tup vs) p = _; exact upd_same) (r.le s.le)) h
theorem Cont.lst {S : Sta} {H : Hp} {Qd : DK} {Q : VK} (c : Cont S H Qd Q) (g : Good S H) {vs : List V} {ds : List D} (r : RpL S.bx S.F vs ds) (h : Qd (.ls ds)) : ∀ p, H p = none → Q (.ref p) (upd H p (.lst vs)) := fun p hp => by
  obtain ⟨s, g'⟩ := step_new g (o := .lst vs) hp
  exact c _ _ _ _ s g' (.ls (by show upd S.F p (.lst vs) p = _; exact upd_same) (r.le s.le)) h
abbrev DT_ := Env' → DK → EK → Prop
abbrev DB_ := Env' → (Bool → Prop) → EK → Prop
abbrev DA_ := Env' → (List D → Prop) → EK → Prop
structure DE (X : Cx) (E : XK) (e : Expr) (d : DT_) : Prop where
  run : ∃ t, PE X e t ∧ ∀ Z S H σ env Q Qd Ed, Good S H → Rel Z S H σ env → XLink X.mg S H Ed E → d env Qd Ed → Cont S H Qd Q → t σ H Q
def ContB (S : Sta) (H : Hp) (Qd : Bool → Prop) (Q : Bool → Hp → Prop) : Prop := ∀ b H' S', Stp S H S' H' → Good S' H' → Qd b → Q b H'
structure DB (X : Cx) (E : XK) (e : Expr) (d : DB_) : Prop where
  run : ∃ t, PT X e t ∧ ∀ Z S H σ env Q Qd Ed, Good S H → Rel Z S H σ env → XLink X.mg S H Ed E → d env Qd Ed → ContB S H Qd Q → t σ H Q
structure DW (X : Cx) (E : XK) (e : Expr) (d : DB_) : Prop where
  run : ∃ t, PW X e t ∧ ∀ Z S H σ env Q Qd Ed, Good S H → Rel Z S H σ env → XLink X.mg S H Ed E → d env Qd Ed → ContB S H Qd Q → t σ H Q
def ContL (S : Sta) (H : Hp) (Qd : List D → Prop) (Q : List V → Hp → Prop) : Prop := ∀ vs H' S' xs, Stp S H S' H' → Good S' H' → RpL S'.bx S'.F vs xs → Qd xs → Q vs H'
structure DA (X : Cx) (E : XK) (es : List Expr) (d : DA_) : Prop where
  run : ∃ t, PA X es t ∧ ∀ Z S H σ env Q Qd Ed, Good S H → Rel Z S H σ env → XLink X.mg S H Ed E → d env Qd Ed → ContL S H Qd Q → t σ H Q
section
variable {X : Cx} {E : XK} {pos : Pos} {a b c : Expr} {da db dc : DT_}
def dVar (i : Nat) : DT_ := fun env Q _ => match env[i]? with | some (.v d) => Q d | _ => False
theorem de_var (i : Nat) {x : Str} (hN : X.N[i]? = some x := by rfl) (hv : Vis X.env.scope x := by first | exact Or.inl rfl | exact Or.inr (Or.inl rfl) | exact Or.inr (Or.inr rfl)) (hd : (x == ("__debug__" : Str)) = false := by decide)
    (hcd : (x == ("__classdict__" : Str)) = false := by decide) : DE X E (.Name x pos) (dVar i) := by
  refine ⟨_, pe_var hN hv hd hcd, fun Z S H σ env Q Qd Ed g r _ h k => ?_⟩
  unfold dVar at h
  split at h
  · next d e =>
    obtain ⟨x, h1, h2⟩ := r.at_ i _ e
    exact ⟨x, h1, k.now g h2 h⟩
  · exact h.elim
def dC (d : D) : DT_ := fun _ Q _ => Q d
theorem de_int {i j} : DE X E (.Constant (.int i) j pos) (dC (.it i)) := ⟨_, pe_int, fun _ _ _ _ _ _ _ _ g _ _ h k => k.now g (.it i) h⟩
theorem de_bl {i j} : DE X E (.Constant (.bool i) j pos) (dC (.bl i)) := ⟨_, pe_bl, fun _ _ _ _ _ _ _ _ g _ _ h k => k.now g (.bl i) h⟩
theorem de_non {j} : DE X E (.Constant .none j pos) (dC .non) := ⟨_, pe_non, fun _ _ _ _ _ _ _ _ g _ _ h k => k.now g .non h⟩
theorem de_str {s j} : DE X E (.Constant (.str s) j pos) (dC (.st s)) := ⟨_, pe_str, fun _ _ _ _ _ _ _ _ g _ _ h k => k.now g (.st s) h⟩
theorem de_globI {x : Str} {i : Int} {u : Value} (hg : Gl X x) (hm : X.mg x = some u) (r : RelV (.int i) u) (hd : (x == ("__debug__" : Str)) = false := by decide) : DE X E (.Name x pos) (dC (.it i)) :=
  ⟨_, pe_glob hg hm r hd, fun _ _ _ _ _ _ _ _ g _ _ h k => k.now g (.it i) h⟩
theorem de_globS {x : Str} {i : Str} {u : Value} (hg : Gl X x) (hm : X.mg x = some u) (r : RelV (.str i) u) (hd : (x == ("__debug__" : Str)) = false := by decide) : DE X E (.Name x pos) (dC (.st i)) :=
  ⟨_, pe_glob hg hm r hd, fun _ _ _ _ _ _ _ _ g _ _ h k => k.now g (.st i) h⟩
def OpD (S : Sta) (r : R2) (o : D → D → DK → Prop) : Prop := ∀ H x y dx dy Q Qd, Good S H → Rp S.bx S.F x dx → Rp S.bx S.F y dy → o dx dy Qd → Cont S H Qd Q → r x y H Q
def dOp (o : D → D → DK → Prop) (da db : DT_) : DT_ := fun env Q E => da env (fun x => db env (fun y => o x y Q) E) E
theorem de_bin {op : Operator} {r : R2} {o : D → D → DK → Prop} (ho : OpR X (binaryOp op) r) (od : ∀ S, OpD S r o) (ha : DE X E a da) (hb : DE X E b db) : DE X E (.BinOp a op b pos) (dOp o da db) := by
  obtain ⟨ta, pa, ra⟩ := ha.run
  obtain ⟨tb, pb, rb⟩ := hb.run
  refine ⟨_, pe_op ho pa pb, fun Z S H σ env Q Qd Ed g r l h k => ?_⟩
  refine ra Z S H σ env _ _ Ed g r l h fun x H1 S1 dx s1 g1 r1 h1 => ?_
  refine rb Z S1 H1 σ env _ _ Ed g1 (r.step s1) (l.step s1 g1) h1 fun y H2 S2 dy s2 g2 r2 h2 => ?_
  exact od S2 H2 x y dx dy Q Qd g2 (r1.le s2.le) r2 h2 ((k.step s1 g1).step s2 g2)
theorem de_cmp {op : CmpOp} {r : R2} {o : D → D → DK → Prop} (ho : OpR X (compareOp op) r) (od : ∀ S, OpD S r o) (ha : DE X E a da) (hb : DE X E b db) (hm : behindInMarks op b = false := by first | exact nobehind _ (by decide) (by decide) | rfl) :
    DE X E (.Compare a [op] [b] pos) (dOp o da db) := by
  obtain ⟨ta, pa, ra⟩ := ha.run
  obtain ⟨tb, pb, rb⟩ := hb.run
  refine ⟨_, pe_cmpR ho pa pb hm, fun Z S H σ env Q Qd Ed g r l h k => ?_⟩
  refine ra Z S H σ env _ _ Ed g r l h fun x H1 S1 dx s1 g1 r1 h1 => ?_
  refine rb Z S1 H1 σ env _ _ Ed g1 (r.step s1) (l.step s1 g1) h1 fun y H2 S2 dy s2 g2 r2 h2 => ?_
  exact od S2 H2 x y dx dy Q Qd g2 (r1.le s2.le) r2 h2 ((k.step s1 g1).step s2 g2)
def dTst (d : DT_) : DB_ := fun env Q E => d env (fun x => match x with | .bl b => Q b | _ => False) E
theorem db_cmp {op : CmpOp} {r : R2} {o : D → D → DK → Prop} (ho : OpR X (compareOp op) r) (od : ∀ S, OpD S r o) (ha : DE X E a da) (hb : DE X E b db) (hm : behindInMarks op b = false := by first | exact nobehind _ (by decide) (by decide) | rfl) :
    DB X E (.Compare a [op] [b] pos) (dTst (dOp o da db)) := by
  obtain ⟨ta, pa, ra⟩ := ha.run
  obtain ⟨tb, pb, rb⟩ := hb.run
  refine ⟨_, pt_cmpR ho pa pb hm, fun Z S H σ env Q Qd Ed g r l h k => ?_⟩
  refine ra Z S H σ env _ _ Ed g r l h fun x H1 S1 dx s1 g1 r1 h1 => ?_
  refine rb Z S1 H1 σ env _ _ Ed g1 (r.step s1) (l.step s1 g1) h1 fun y H2 S2 dy s2 g2 r2 h2 => ?_
  refine od S2 H2 x y dx dy _ _ g2 (r1.le s2.le) r2 h2 fun v H3 S3 z s3 g3 r3 h3 => ?_
  split at h3
  · cases r3
    exact ⟨_, rfl, k _ _ _ ((s1.trans g1 s2).trans g2 s3) g3 h3⟩
  · exact h3.elim
theorem db_val {e : Expr} {d : DT_} (he : DE X E e d) (hs : ∀ whole, isTrue e X.env whole = (do let v ← whole; standAt e.pos; holding [v] (truthy v)) := by intro _; rfl) : DB X E e (dTst d) := by
  obtain ⟨t, p, q⟩ := he.run
  refine ⟨_, pt_val p hs, fun Z S H σ env Q Qd Ed g r l h k => ?_⟩
  refine q Z S H σ env _ _ Ed g r l h fun v H3 S3 z s3 g3 r3 h3 => ?_
  split at h3
  · cases r3
    exact ⟨_, rfl, k _ _ _ s3 g3 h3⟩
  · exact h3.elim
variable {ta tb : DB_} {rest : List Expr}
def dAnd (t u : DB_) : DB_ := fun env Q E => t env (fun c => match c with | true => u env Q E | false => Q false) E
def dOr (t u : DB_) : DB_ := fun env Q E => t env (fun c => match c with | true => Q true | false => u env Q E) E
def dNot (t : DB_) : DB_ := fun env Q E => t env (fun c => Q (!c)) E
theorem dw_and1 (ha : DB X E a ta) : DW X E (.BoolOp .And [a] pos) ta := let ⟨t, p, q⟩ := ha.run; ⟨t, pw_and1 p, q⟩
theorem dw_or1 (ha : DB X E a ta) : DW X E (.BoolOp .Or [a] pos) ta := let ⟨t, p, q⟩ := ha.run; ⟨t, pw_or1 p, q⟩
theorem dw_and (ha : DB X E a ta) (hb : DW X E (.BoolOp .And (b :: rest) pos) tb) : DW X E (.BoolOp .And (a :: b :: rest) pos) (dAnd ta tb) := by
  obtain ⟨t, p, q⟩ := ha.run
  obtain ⟨t', p', q'⟩ := hb.run
  refine ⟨_, pw_and p p', fun Z S H σ env Q Qd Ed g r l h k => ?_⟩
  refine q Z S H σ env _ _ Ed g r l h fun c H1 S1 s1 g1 h1 => ?_
  cases c with
  | true => exact q' Z S1 H1 σ env _ _ Ed g1 (r.step s1) (l.step s1 g1) h1 fun d H2 S2 s2 g2 h2 => k d H2 S2 (s1.trans g1 s2) g2 h2
  | false => exact k false H1 S1 s1 g1 h1
theorem dw_or (ha : DB X E a ta) (hb : DW X E (.BoolOp .Or (b :: rest) pos) tb) : DW X E (.BoolOp .Or (a :: b :: rest) pos) (dOr ta tb) := by
  obtain ⟨t, p, q⟩ := ha.run
  obtain ⟨t', p', q'⟩ := hb.run
  refine ⟨_, pw_or p p', fun Z S H σ env Q Qd Ed g r l h k => ?_⟩
  refine q Z S H σ env _ _ Ed g r l h fun c H1 S1 s1 g1 h1 => ?_
  cases c with
  | false => exact q' Z S1 H1 σ env _ _ Ed g1 (r.step s1) (l.step s1 g1) h1 fun d H2 S2 s2 g2 h2 => k d H2 S2 (s1.trans g1 s2) g2 h2
  | true => exact k true H1 S1 s1 g1 h1
theorem DW.toDB {e : Expr} (h : DW X E e ta) : DB X E e ta := let ⟨t, p, q⟩ := h.run; ⟨t, p.pt, q⟩
theorem db_not (ha : DB X E a ta) : DB X E (.UnaryOp .Not a pos) (dNot ta) := by
  obtain ⟨t, p, q⟩ := ha.run
  exact ⟨_, pt_not p, fun Z S H σ env Q Qd Ed g r l h k => q Z S H σ env _ _ Ed g r l h fun c H1 S1 s1 g1 h1 => k _ H1 S1 s1 g1 h1⟩
def dAndV (da db : DT_) : DT_ := fun env Q E => da env (fun x => match x with | .bl true => db env Q E | .bl false => Q (.bl false) | _ => False) E
def dOrV (da db : DT_) : DT_ := fun env Q E => da env (fun x => match x with | .bl false => db env Q E | .bl true => Q (.bl true) | _ => False) E
def dNotV (da : DT_) : DT_ := fun env Q E => da env (fun x => match x with | .bl b => Q (.bl (!b)) | _ => False) E
theorem de_one {op} {d : DT_} (h : DE X E a d) : DE X E (.BoolOp op [a] pos) d := let ⟨t, p, q⟩ := h.run; ⟨t, pe_one p, q⟩
theorem de_and (ha : DE X E a da) (hb : DE X E (.BoolOp .And (b :: rest) pos) db) : DE X E (.BoolOp .And (a :: b :: rest) pos) (dAndV da db) := by
  obtain ⟨t, p, q⟩ := ha.run
  obtain ⟨t', p', q'⟩ := hb.run
  refine ⟨_, pe_and p p', fun Z S H σ env Q Qd Ed g r l h k => ?_⟩
  refine q Z S H σ env _ _ Ed g r l h fun v H1 S1 x s1 g1 r1 h1 => ?_
  split at h1
  · cases r1
    refine ⟨true, rfl, ?_⟩
    rw [if_pos rfl]
    exact q' Z S1 H1 σ env _ _ Ed g1 (r.step s1) (l.step s1 g1) h1 (k.step s1 g1)
  · cases r1
    refine ⟨false, rfl, ?_⟩
    rw [if_neg Bool.false_ne_true]
    exact k _ H1 S1 _ s1 g1 (.bl false) h1
  · exact h1.elim
theorem de_or (ha : DE X E a da) (hb : DE X E (.BoolOp .Or (b :: rest) pos) db) : DE X E (.BoolOp .Or (a :: b :: rest) pos) (dOrV da db) := by
  obtain ⟨t, p, q⟩ := ha.run
  obtain ⟨t', p', q'⟩ := hb.run
  refine ⟨_, pe_or p p', fun Z S H σ env Q Qd Ed g r l h k => ?_⟩
  refine q Z S H σ env _ _ Ed g r l h fun v H1 S1 x s1 g1 r1 h1 => ?_
  split at h1
  · cases r1
    refine ⟨false, rfl, ?_⟩
    rw [if_neg Bool.false_ne_true]
    exact q' Z S1 H1 σ env _ _ Ed g1 (r.step s1) (l.step s1 g1) h1 (k.step s1 g1)
  · cases r1
    refine ⟨true, rfl, ?_⟩
    rw [if_pos rfl]
    exact k _ H1 S1 _ s1 g1 (.bl true) h1
  · exact h1.elim
theorem de_not (ha : DE X E a da) : DE X E (.UnaryOp .Not a pos) (dNotV da) := by
  obtain ⟨t, p, q⟩ := ha.run
  refine ⟨_, pe_not p, fun Z S H σ env Q Qd Ed g r l h k => ?_⟩
  refine q Z S H σ env _ _ Ed g r l h fun v H1 S1 x s1 g1 r1 h1 => ?_
  split at h1
  · cases r1
    exact ⟨_, rfl, k _ H1 S1 _ s1 g1 (.bl _) h1⟩
  · exact h1.elim
def dIf (t : DB_) (da db : DT_) : DT_ := fun env Q E => t env (fun c => match c with | true => da env Q E | false => db env Q E) E
theorem de_ifExp {c : Expr} (hc : DB X E c ta) (ha : DE X E a da) (hb : DE X E b db) : DE X E (.IfExp c a b pos) (dIf ta da db) := by
  obtain ⟨t, p, q⟩ := hc.run
  obtain ⟨t1, p1, q1⟩ := ha.run
  obtain ⟨t2, p2, q2⟩ := hb.run
  refine ⟨_, pe_ifExp p p1 p2, fun Z S H σ env Q Qd Ed g r l h k => ?_⟩
  refine q Z S H σ env _ _ Ed g r l h fun c H1 S1 s1 g1 h1 => ?_
  cases c with
  | true =>
    show if true = true then t1 σ H1 Q else t2 σ H1 Q
    rw [if_pos rfl]
    exact q1 Z S1 H1 σ env _ _ Ed g1 (r.step s1) (l.step s1 g1) h1 (k.step s1 g1)
  | false =>
    show if false = true then t1 σ H1 Q else t2 σ H1 Q
    rw [if_neg Bool.false_ne_true]
    exact q2 Z S1 H1 σ env _ _ Ed g1 (r.step s1) (l.step s1 g1) h1 (k.step s1 g1)
def dNil : DA_ := fun _ Q _ => Q []
def dCons (d : DT_) (u : DA_) : DA_ := fun env Q E => d env (fun x => u env (fun xs => Q (x :: xs)) E) E
theorem da_nil : DA X E [] dNil := ⟨_, pa_nil, fun _ S H _ _ _ _ _ g _ _ h k => k [] H S [] (.refl S H) g .nil h⟩
theorem da_cons {es : List Expr} {u : DA_} (ha : DE X E a da) (hr : DA X E es u) (hs : starEach (a :: es) X.env = (false, eval a X.env) :: starEach es X.env := by rfl) : DA X E (a :: es) (dCons da u) := by
  obtain ⟨t, p, q⟩ := ha.run
  obtain ⟨t', p', q'⟩ := hr.run
  refine ⟨_, pa_cons p p' hs, fun Z S H σ env Q Qd Ed g r l h k => ?_⟩
  refine q Z S H σ env _ _ Ed g r l h fun v H1 S1 x s1 g1 r1 h1 => ?_
  refine q' Z S1 H1 σ env _ _ Ed g1 (r.step s1) (l.step s1 g1) h1 fun vs H2 S2 xs s2 g2 r2 h2 => ?_
  exact k _ H2 S2 _ (s1.trans g1 s2) g2 (.cons (r1.le s2.le) r2) h2
def dStar (d : DT_) (u : DA_) : DA_ := fun env Q E => d env (fun x => match x with | .tp ys => u env (fun xs => Q (ys ++ xs)) E | .ls ys => u env (fun xs => Q (ys ++ xs)) E | _ => False) E
abbrev szOk (n : Nat) : Prop := n ≤ sizeLine
def dTup (u : DA_) : DT_ := fun env Q E => u env (fun xs => szOk xs.length ∧ Q (.tp xs)) E
def dLst (u : DA_) : DT_ := fun env Q E => u env (fun xs => szOk xs.length ∧ Q (.ls xs)) E
theorem de_tup {es : List Expr} {u : DA_} {x1} (h : DA X E es u) : DE X E (.Tuple es x1 pos) (dTup u) := by
  obtain ⟨t, p, q⟩ := h.run
  refine ⟨_, pe_tup p, fun Z S H σ env Q Qd Ed g r l h k => ?_⟩
  refine q Z S H σ env _ _ Ed g r l h fun vs H1 S1 xs s1 g1 r1 h1 => ?_
  exact ⟨by rw [r1.length]; exact h1.1, (k.step s1 g1).tup g1 r1 h1.2⟩
theorem de_lst {es : List Expr} {u : DA_} (h : DA X E es u) : DE X E (.List es pos) (dLst u) := by
  obtain ⟨t, p, q⟩ := h.run
  refine ⟨_, pe_lst p, fun Z S H σ env Q Qd Ed g r l h k => ?_⟩
  refine q Z S H σ env _ _ Ed g r l h fun vs H1 S1 xs s1 g1 r1 h1 => ?_
  exact ⟨by rw [r1.length]; exact h1.1, (k.step s1 g1).lst g1 r1 h1.2⟩
def CallD (S : Sta) (r : List V → Hp → VK → Prop) (o : List D → DK → Prop) : Prop := ∀ H vs ds Q Qd, Good S H → RpL S.bx S.F vs ds → o ds Qd → Cont S H Qd Q → r vs H Q
def dCB (o : List D → DK → Prop) (u : DA_) : DT_ := fun env Q E => u env (fun xs => o xs Q) E
variable {x : Str} {p : Pos} {id T : String} {e : Expr} {es : List Expr} {u : DA_} {r : List V → Hp → VK → Prop} {o : List D → DK → Prop}
theorem de_callB (hc : CallR X (.builtin id) r) (od : ∀ S, CallD S r o) (hg : Gl X x) (hm : X.mg x = none) (hv : bootBuiltins x = some (.builtin id)) (ha : DA X E (e :: es) u) (hn : x ≠ "__name__" := by decide) (hdb : (x == ("__debug__" : Str)) = false := by decide)
    (he : starEach (e :: es) X.env = (false, eval e X.env) :: starEach es X.env := by rfl) (hpl : (backTo pos (starEach es X.env)).any (·.1) = false := by rfl) : DE X E (.Call (.Name x p) (e :: es) [] pos) (dCB o u) := by
  obtain ⟨t, p, q⟩ := ha.run
  refine ⟨_, pe_callB hc hg hm hv p hn hdb he hpl, fun Z S H σ env Q Qd Ed g r l h k => ?_⟩
  refine q Z S H σ env _ _ Ed g r l h fun vs H1 S1 xs s1 g1 r1 h1 => ?_
  exact od S1 H1 vs xs Q Qd g1 r1 h1 (k.step s1 g1)
theorem de_callTy (hc : CallR X (.type T) r) (od : ∀ S, CallD S r o) (hg : Gl X x) (hm : X.mg x = none) (hv : bootBuiltins x = some (.type T)) (ha : DA X E (e :: es) u) (hn : x ≠ "__name__" := by decide) (hdb : (x == ("__debug__" : Str)) = false := by decide)
    (he : starEach (e :: es) X.env = (false, eval e X.env) :: starEach es X.env := by rfl) (hpl : (backTo pos (starEach es X.env)).any (·.1) = false := by rfl) : DE X E (.Call (.Name x p) (e :: es) [] pos) (dCB o u) := by
  obtain ⟨t, p, q⟩ := ha.run
  refine ⟨_, pe_callTy hc hg hm hv p hn hdb he hpl, fun Z S H σ env Q Qd Ed g r l h k => ?_⟩
  refine q Z S H σ env _ _ Ed g r l h fun vs H1 S1 xs s1 g1 r1 h1 => ?_
  exact od S1 H1 vs xs Q Qd g1 r1 h1 (k.step s1 g1)
end
def oAdd (x y : D) (Q : DK) : Prop := match x, y with
  | .it i, .it j => Q (.it (i + j))
  | .st i, .st j => szOk (i.length + j.length) ∧ Q (.st (i ++ j))
  | .tp i, .tp j => szOk (i.length + j.length) ∧ Q (.tp (i ++ j))
  | .ls i, .ls j => szOk (i.length + j.length) ∧ Q (.ls (i ++ j))
  | _, _ => False
def rAddA (K : PySem.W.Frag) : R2 := fun x y H Q => rI0 (fun i j => .int (i + j)) x y H Q ∨ (∃ i j, x = .str i ∧ y = .str j ∧ i.length + j.length ≤ sizeLine ∧ Q (.str (i ++ j)) H) ∨ rCatA K x y H Q ∨ rCat x y H Q
theorem or_addA {X : Cx} : OpR X (binaryOp .Add) (rAddA X.K) := op_add.or (op_add_str.or (op_catA.or op_cat))
theorem od_add {K : PySem.W.Frag} (S : Sta) : OpD S (rAddA K) oAdd := by
  intro H x y dx dy Q Qd g rx ry h k
  unfold oAdd at h
  split at h
  · cases rx; cases ry
    exact .inl ⟨_, _, rfl, rfl, k.now g (.it _) h⟩
  · cases rx; cases ry
    exact .inr (.inl ⟨_, _, rfl, rfl, h.1, k.now g (.st _) h.2⟩)
  · next ds es =>
    cases rx with
    | tp e1 r1 =>
      cases ry with
      | tp e2 r2 =>
        refine .inr (.inr (.inl ⟨_, _, _, _, rfl, rfl, SqT.of (g.fz _ _ e1), SqT.of (g.fz _ _ e2), by rw [r1.length, r2.length]; exact h.1, fun z => ?_, fun _ z => ?_, fun _ _ => k.tup g (r1.app r2) h.2⟩))
        · subst z
          cases r1
          exact k.now g (.tp e2 r2) h.2
        · subst z
          cases r2
          exact k.now g (.tp e1 r1) (by have := h.2; rwa [List.append_nil] at this)
  · next ds es =>
    cases rx with
    | ls e1 r1 =>
      cases ry with
      | ls e2 r2 =>
        exact .inr (.inr (.inr ⟨_, _, _, _, rfl, rfl, g.fz _ _ e1, g.fz _ _ e2, by rw [r1.length, r2.length]; exact h.1, k.lst g (r1.app r2) h.2⟩))
  · exact h.elim
def oI (C : Int → Int → Prop) (f : Int → Int → D) (x y : D) (Q : DK) : Prop := match x, y with | .it i, .it j => C i j ∧ Q (f i j) | _, _ => False
def oI0 (f : Int → Int → D) (x y : D) (Q : DK) : Prop := match x, y with | .it i, .it j => Q (f i j) | _, _ => False
theorem od_I {C : Int → Int → Prop} {f : Int → Int → Int} (S : Sta) : OpD S (rI C fun i j => .int (f i j)) (oI C fun i j => .it (f i j)) := by
  intro H x y dx dy Q Qd g rx ry h k
  unfold oI at h
  split at h
  · cases rx; cases ry
    exact ⟨_, _, rfl, rfl, h.1, k.now g (.it _) h.2⟩
  · exact h.elim
theorem od_I0 {f : Int → Int → Int} (S : Sta) : OpD S (rI0 fun i j => .int (f i j)) (oI0 fun i j => .it (f i j)) := by
  intro H x y dx dy Q Qd g rx ry h k
  unfold oI0 at h
  split at h
  · cases rx; cases ry
    exact ⟨_, _, rfl, rfl, k.now g (.it _) h⟩
  · exact h.elim
theorem od_B0 {f : Int → Int → Bool} (S : Sta) : OpD S (rI0 fun i j => .bl (f i j)) (oI0 fun i j => .bl (f i j)) := by
  intro H x y dx dy Q Qd g rx ry h k
  unfold oI0 at h
  split at h
  · cases rx; cases ry
    exact ⟨_, _, rfl, rfl, k.now g (.bl _) h⟩
  · exact h.elim
abbrev oSub := oI0 fun i j => .it (i - j)
abbrev oFdiv := oI CDivW fun i j => .it (i / j)
abbrev oMod := oI (fun _ j => 0 < j) fun i j => .it (i % j)
abbrev oPow := oI CPow fun i j => .it (i ^ j.toNat)
abbrev oLt := oI0 fun i j => .bl (decide (i < j))
abbrev oLe := oI0 fun i j => .bl (decide (i ≤ j))
abbrev oGt := oI0 fun i j => .bl (decide (j < i))
abbrev oGe := oI0 fun i j => .bl (decide (j ≤ i))
def oMul (x y : D) (Q : DK) : Prop := match x, y with
  | .it i, .it j => CMul i j ∧ Q (.it (i * j))
  | .tp i, .it j => i ≠ [] ∧ 2 ≤ j ∧ j ≤ 1000 ∧ i.length ≤ 1000 ∧ Q (.tp (List.replicate j.toNat i).flatten)
  | .ls i, .it j => -(2 ^ 63) ≤ j ∧ j < 2 ^ 63 ∧ szOk (i.length * j.toNat) ∧ Q (.ls (List.replicate j.toNat i).flatten)
  | _, _ => False
def rMulA (K : PySem.W.Frag) : R2 := fun x y H Q => rI CMul (fun i j => .int (i * j)) x y H Q ∨ rRepT K x y H Q ∨ rRep x y H Q
theorem or_mulA {X : Cx} : OpR X (binaryOp .Mult) (rMulA X.K) := op_mul.or (op_repT.or op_rep)
theorem RpL.rep {t : Option Bx} {F : Hp} {vs : List V} {ds : List D} (r : RpL t F vs ds) : ∀ n : Nat, RpL t F (List.replicate n vs).flatten (List.replicate n ds).flatten
  | 0 => .nil
  | n + 1 => by
    rw [List.replicate_succ, List.replicate_succ, List.flatten_cons, List.flatten_cons]
    exact r.app (RpL.rep r n)
theorem od_mul {K : PySem.W.Frag} (S : Sta) : OpD S (rMulA K) oMul := by
  intro H x y dx dy Q Qd g rx ry h k
  unfold oMul at h
  split at h
  · cases rx; cases ry
    exact .inl ⟨_, _, rfl, rfl, h.1, k.now g (.it _) h.2⟩
  · cases ry
    cases rx with
    | tp e1 r1 =>
      refine .inr (.inl ⟨_, _, _, rfl, rfl, SqT.of (g.fz _ _ e1), fun z => ?_, h.2.1, h.2.2.1, by rw [r1.length]; exact h.2.2.2.1, k.tup g (r1.rep _) h.2.2.2.2⟩)
      subst z
      cases r1
      exact h.1 rfl
  · cases ry
    cases rx with
    | ls e1 r1 => exact .inr (.inr ⟨_, _, _, rfl, rfl, g.fz _ _ e1, h.1, h.2.1, by rw [r1.length]; exact h.2.2.1, k.lst g (r1.rep _) h.2.2.2⟩)
  · exact h.elim
section
variable {X : Cx} {E : XK} {pos : Pos} {a b c : Expr} {da db dc : DT_}
theorem de_add (ha : DE X E a da) (hb : DE X E b db) : DE X E (.BinOp a .Add b pos) (dOp oAdd da db) := de_bin or_addA od_add ha hb
theorem de_sub (ha : DE X E a da) (hb : DE X E b db) : DE X E (.BinOp a .Sub b pos) (dOp oSub da db) := de_bin op_sub od_I0 ha hb
theorem de_mul (ha : DE X E a da) (hb : DE X E b db) : DE X E (.BinOp a .Mult b pos) (dOp oMul da db) := de_bin or_mulA od_mul ha hb
theorem de_mod (ha : DE X E a da) (hb : DE X E b db) : DE X E (.BinOp a .Mod b pos) (dOp oMod da db) := de_bin op_mod od_I ha hb
theorem de_pow (ha : DE X E a da) (hb : DE X E b db) : DE X E (.BinOp a .Pow b pos) (dOp oPow da db) := de_bin op_pow od_I ha hb
theorem de_gt (ha : DE X E a da) (hb : DE X E b db) : DE X E (.Compare a [.Gt] [b] pos) (dOp oGt da db) := de_cmp op_gt od_B0 ha hb
theorem de_ge (ha : DE X E a da) (hb : DE X E b db) : DE X E (.Compare a [.GtE] [b] pos) (dOp oGe da db) := de_cmp op_ge od_B0 ha hb
theorem db_lt (ha : DE X E a da) (hb : DE X E b db) : DB X E (.Compare a [.Lt] [b] pos) (dTst (dOp oLt da db)) := db_cmp op_lt od_B0 ha hb
theorem db_gt (ha : DE X E a da) (hb : DE X E b db) : DB X E (.Compare a [.Gt] [b] pos) (dTst (dOp oGt da db)) := db_cmp op_gt od_B0 ha hb
theorem db_ge (ha : DE X E a da) (hb : DE X E b db) : DB X E (.Compare a [.GtE] [b] pos) (dTst (dOp oGe da db)) := db_cmp op_ge od_B0 ha hb
def dNeg (da : DT_) : DT_ := fun env Q E => da env (fun x => match x with | .it i => Q (.it (-i)) | _ => False) E
theorem de_neg (ha : DE X E a da) : DE X E (.UnaryOp .USub a pos) (dNeg da) := by
  obtain ⟨t, p, q⟩ := ha.run
  refine ⟨_, pe_un un_neg p, fun Z S H σ env Q Qd Ed g r l h k => ?_⟩
  refine q Z S H σ env _ _ Ed g r l h fun v H1 S1 x s1 g1 r1 h1 => ?_
  split at h1
  · cases r1
    exact ⟨_, rfl, k _ H1 S1 _ s1 g1 (.it _) h1⟩
  · exact h1.elim
def dChain (o o' : D → D → DK → Prop) (da db dc : DT_) : DT_ := fun env Q E => da env (fun x => db env (fun y => o x y fun z => match z with | .bl true => dc env (fun w => o' y w Q) E | .bl false => Q (.bl false) | _ => False) E) E
theorem de_chain {op op' : CmpOp} {r r' : R2} {o o' : D → D → DK → Prop} (ho : OpR X (compareOp op) r) (od : ∀ S, OpD S r o) (ho' : OpR X (compareOp op') r') (od' : ∀ S, OpD S r' o') (ha : DE X E a da) (hb : DE X E b db) (hc : DE X E c dc)
    (hm : lastMarks [op, op'] [b, c] = false := by with_unfolding_all rfl) : DE X E (.Compare a [op, op'] [b, c] pos) (dChain o o' da db dc) := by
  obtain ⟨ta, pa, ra⟩ := ha.run
  obtain ⟨tb, pb, rb⟩ := hb.run
  obtain ⟨tc, pc, rc⟩ := hc.run
  refine ⟨_, pe_chain ho ho' pa pb pc hm, fun Z S H σ env Q Qd Ed g r l h k => ?_⟩
  refine ra Z S H σ env _ _ Ed g r l h fun x H1 S1 dx s1 g1 r1 h1 => ?_
  refine rb Z S1 H1 σ env _ _ Ed g1 (r.step s1) (l.step s1 g1) h1 fun y H2 S2 dy s2 g2 r2 h2 => ?_
  refine od S2 H2 x y dx dy _ _ g2 (r1.le s2.le) r2 h2 fun v H3 S3 z s3 g3 r3 h3 => ?_
  have s13 := (s1.trans g1 s2).trans g2 s3
  split at h3
  · cases r3
    refine ⟨true, rfl, ?_⟩
    rw [if_pos rfl]
    refine rc Z S3 H3 σ env _ _ Ed g3 (r.step s13) (l.step s13 g3) h3 fun w H4 S4 dw s4 g4 r4 h4 => ?_
    exact od' S4 H4 y w dy dw Q Qd g4 ((r2.le s3.le).le s4.le) r4 h4 ((k.step s13 g3).step s4 g4)
  · cases r3
    refine ⟨false, rfl, ?_⟩
    rw [if_neg Bool.false_ne_true]
    exact k _ H3 S3 _ s13 g3 (.bl false) h3
  · exact h3.elim
theorem db_chain {op op' : CmpOp} {r r' : R2} {o o' : D → D → DK → Prop} (ho : OpR X (compareOp op) r) (od : ∀ S, OpD S r o) (ho' : OpR X (compareOp op') r') (od' : ∀ S, OpD S r' o') (ha : DE X E a da) (hb : DE X E b db) (hc : DE X E c dc)
    (hm : lastMarks [op, op'] [b, c] = false := by with_unfolding_all rfl) : DB X E (.Compare a [op, op'] [b, c] pos) (dTst (dChain o o' da db dc)) := by
  obtain ⟨ta, pa, ra⟩ := ha.run
  obtain ⟨tb, pb, rb⟩ := hb.run
  obtain ⟨tc, pc, rc⟩ := hc.run
  refine ⟨_, pt_chain ho ho' pa pb pc hm, fun Z S H σ env Q Qd Ed g r l h k => ?_⟩
  refine ra Z S H σ env _ _ Ed g r l h fun x H1 S1 dx s1 g1 r1 h1 => ?_
  refine rb Z S1 H1 σ env _ _ Ed g1 (r.step s1) (l.step s1 g1) h1 fun y H2 S2 dy s2 g2 r2 h2 => ?_
  refine od S2 H2 x y dx dy _ _ g2 (r1.le s2.le) r2 h2 fun v H3 S3 z s3 g3 r3 h3 => ?_
  have s13 := (s1.trans g1 s2).trans g2 s3
  split at h3
  · cases r3
    refine ⟨true, rfl, ?_⟩
    rw [if_pos rfl]
    refine rc Z S3 H3 σ env _ _ Ed g3 (r.step s13) (l.step s13 g3) h3 fun w H4 S4 dw s4 g4 r4 h4 => ?_
    refine od' S4 H4 y w dy dw _ _ g4 ((r2.le s3.le).le s4.le) r4 h4 fun v' H5 S5 z' s5 g5 r5 h5 => ?_
    split at h5
    · cases r5
      exact ⟨_, rfl, k _ _ _ ((s13.trans g3 s4).trans g4 s5) g5 h5⟩
    · exact h5.elim
  · cases r3
    refine ⟨false, rfl, ?_⟩
    rw [if_neg Bool.false_ne_true]
    exact ⟨false, rfl, k _ H3 S3 s13 g3 h3⟩
  · exact h3.elim
def isNon : D → Bool | .non => true | _ => false
theorem rp_non {t : Option Bx} {F : Hp} {v : V} {d : D} (r : Rp t F v d) : decide (v = .non) = isNon d := by
  cases r <;> rfl
def dIsN (da : DT_) : DT_ := fun env Q E => da env (fun x => Q (.bl (isNon x))) E
def dNotN (da : DT_) : DT_ := fun env Q E => da env (fun x => Q (.bl (!isNon x))) E
theorem db_isN {j p} (ha : DE X E a da) : DB X E (.Compare a [.Is] [.Constant .none j p] pos) (dTst (dIsN da)) := by
  obtain ⟨t, p, q⟩ := ha.run
  refine ⟨_, pt_cmp (pc_isN p) rfl, fun Z S H σ env Q Qd Ed g r l h k => ?_⟩
  refine q Z S H σ env _ _ Ed g r l h fun v H1 S1 x s1 g1 r1 h1 => ?_
  rw [rp_non r1]
  exact ⟨_, rfl, k _ H1 S1 s1 g1 h1⟩
def tyD : D → String
  | .non => "NoneType" | .bl _ => "bool" | .it _ => "int" | .st _ => "str" | .tp _ => "tuple" | .ls _ => "list" | .dc _ => "dict" | .bx k _ => if k then "list" else "dict"
def isT (T : String) (d : D) : Bool := (kitB (tyD d) T).getD false
def KitAll (T : String) : Prop := ∀ d : D, ∃ b, kitB (tyD d) T = some b
theorem kit_all {T : String} (h : (["NoneType", "bool", "int", "str", "tuple", "list", "dict"].all fun a => (kitB a T).isSome) = true) : KitAll T := by
  intro d
  have h' : ∀ a ∈ ["NoneType", "bool", "int", "str", "tuple", "list", "dict"], (kitB a T).isSome = true := by simpa only [List.all_eq_true] using h
  exact Option.isSome_iff_exists.mp (h' _ (by cases d <;> simp only [tyD] <;> (try split) <;> simp))
theorem ty_of {K : PySem.W.Frag} {S : Sta} {H : Hp} (g : Good S H) {v : V} {d : D} (r : Rp S.bx S.F v d) : TyX K H v (.type (tyD d)) := by
  cases r with
  | non => exact .base .non
  | bl b => exact .base (.bl b)
  | it i => exact .base (.int i)
  | st s => exact .base (.str s)
  | tp e _ => exact .base (.tup (g.fz _ _ e))
  | ls e _ => exact .base (.lst (g.fz _ _ e))
  | dc e _ => exact .base (.dK (g.fz _ _ e))
  | @bx x P e _ =>
    have h1 := x.ty H (g.bx _ e)
    simp only [tyD]
    split at h1
    · next hk => obtain ⟨xs, h1⟩ := h1; rw [if_pos hk]; exact .base (.lst h1)
    · next hk => obtain ⟨xs, h1⟩ := h1; rw [if_neg hk]; exact .base (.dK h1)
def dIsi (T : String) (da : DT_) : DT_ := fun env Q E => da env (fun x => Q (.bl (isT T x))) E
theorem de_isi {T : String} {y : Str} {p p2 : Pos} (hg : Gl X "isinstance") (hm : X.mg "isinstance" = none) (hg2 : Gl X y) (hm2 : X.mg y = none) (hv2 : bootBuiltins y = some (.type T)) (hk : KitAll T) (ha : DE X E a da)
    (hn : y ≠ "__name__" := by decide) (hdb : (y == ("__debug__" : Str)) = false := by decide) (he : starEach [a, .Name y p2] X.env = (false, eval a X.env) :: starEach [.Name y p2] X.env := by rfl)
    (he2 : starEach [.Name y p2] X.env = (false, eval (.Name y p2) X.env) :: starEach [] X.env := by rfl) (hpl : (backTo pos (starEach [.Name y p2] X.env)).any (·.1) = false := by rfl) :
    DE X E (.Call (.Name "isinstance" p) [a, .Name y p2] [] pos) (dIsi T da) := by
  obtain ⟨t, pa, q⟩ := ha.run
  refine ⟨_, pe_callB call_isi hg hm (by decide +kernel) (pa_cons pa (pa_cons (pe_bltn (v := .ty T) hg2 hm2 hv2 rfl hn hdb) pa_nil he2) he) (by decide) (by decide) he hpl, fun Z S H σ env Q Qd Ed g r l h k => ?_⟩
  refine q Z S H σ env _ _ Ed g r l h fun v H1 S1 x s1 g1 r1 h1 => ?_
  obtain ⟨b, eb⟩ := hk x
  refine ⟨v, .ty T, _, _, b, rfl, .ty T, ty_of g1 r1, kit_ty eb, ?_⟩
  refine k _ H1 S1 _ s1 g1 (.bl b) ?_
  have : isT T x = b := by unfold isT; rw [eb]; rfl
  rw [← this]; exact h1
theorem kit_int : KitAll "int" := kit_all (by decide +kernel)
theorem kit_bool : KitAll "bool" := kit_all (by decide +kernel)
theorem kit_str : KitAll "str" := kit_all (by decide +kernel)
def isInt : D → Bool | .bl _ => true | .it _ => true | _ => false
def isBool : D → Bool | .bl _ => true | _ => false
def isStr : D → Bool | .st _ => true | _ => false
theorem isT_int : ∀ d : D, isT "int" d = isInt d
  | .non => show (kitB "NoneType" "int").getD false = false from by decide +kernel
  | .bl _ => show (kitB "bool" "int").getD false = true from by decide +kernel
  | .it _ => show (kitB "int" "int").getD false = true from by decide +kernel
  | .st _ => show (kitB "str" "int").getD false = false from by decide +kernel
  | .tp _ => show (kitB "tuple" "int").getD false = false from by decide +kernel
  | .ls _ => show (kitB "list" "int").getD false = false from by decide +kernel
  | .dc _ => show (kitB "dict" "int").getD false = false from by decide +kernel
  | .bx false _ => show (kitB "dict" "int").getD false = false from by decide +kernel
  | .bx true _ => show (kitB "list" "int").getD false = false from by decide +kernel
theorem isT_bool : ∀ d : D, isT "bool" d = isBool d
  | .non => show (kitB "NoneType" "bool").getD false = false from by decide +kernel
  | .bl _ => show (kitB "bool" "bool").getD false = true from by decide +kernel
  | .it _ => show (kitB "int" "bool").getD false = false from by decide +kernel
  | .st _ => show (kitB "str" "bool").getD false = false from by decide +kernel
  | .tp _ => show (kitB "tuple" "bool").getD false = false from by decide +kernel
  | .ls _ => show (kitB "list" "bool").getD false = false from by decide +kernel
  | .dc _ => show (kitB "dict" "bool").getD false = false from by decide +kernel
  | .bx false _ => show (kitB "dict" "bool").getD false = false from by decide +kernel
  | .bx true _ => show (kitB "list" "bool").getD false = false from by decide +kernel
theorem isT_str : ∀ d : D, isT "str" d = isStr d
  | .non => show (kitB "NoneType" "str").getD false = false from by decide +kernel
  | .bl _ => show (kitB "bool" "str").getD false = false from by decide +kernel
  | .it _ => show (kitB "int" "str").getD false = false from by decide +kernel
  | .st _ => show (kitB "str" "str").getD false = true from by decide +kernel
  | .tp _ => show (kitB "tuple" "str").getD false = false from by decide +kernel
  | .ls _ => show (kitB "list" "str").getD false = false from by decide +kernel
  | .dc _ => show (kitB "dict" "str").getD false = false from by decide +kernel
  | .bx false _ => show (kitB "dict" "str").getD false = false from by decide +kernel
  | .bx true _ => show (kitB "list" "str").getD false = false from by decide +kernel
def oLen (xs : List D) (Q : DK) : Prop := match xs with
  | [.tp ys] => Q (.it ys.length)
  | [.ls ys] => Q (.it ys.length)
  | [.st z] => szOk z.length ∧ Q (.it z.length)
  | _ => False
theorem cd_len (S : Sta) {K : PySem.W.Frag} : CallD S (fun xs H Q => ∃ x n, xs = [x] ∧ LenV K x H n ∧ Q (.int (n : Nat)) H) oLen := by
  intro H vs ds Q Qd g r h k
  unfold oLen at h
  split at h
  · next ys =>
    cases r with
    | cons r1 r2 =>
      cases r2
      cases r1 with
      | tp e rr => exact ⟨_, _, rfl, .inr ⟨_, SqT.of (g.fz _ _ e), rfl⟩, by rw [rr.length]; exact k.now g (.it _) h⟩
  · next ys =>
    cases r with
    | cons r1 r2 =>
      cases r2
      cases r1 with
      | ls e rr => exact ⟨_, _, rfl, .inl ⟨_, SqL.of (g.fz _ _ e), rfl⟩, by rw [rr.length]; exact k.now g (.it _) h⟩
  · next z =>
    cases r with
    | cons r1 r2 =>
      cases r2
      cases r1
      exact ⟨_, _, rfl, ⟨h.1, rfl⟩, k.now g (.it _) h.2⟩
  · exact h.elim
theorem de_len {u : DA_} {e : Expr} {p : Pos} (hg : Gl X "len") (hm : X.mg "len" = none) (ha : DA X E [e] u) (he : starEach [e] X.env = (false, eval e X.env) :: starEach [] X.env := by rfl) : DE X E (.Call (.Name "len" p) [e] [] pos) (dCB oLen u) :=
  de_callB call_len (fun S => cd_len S) hg hm PySem.boot_len ha (by decide) (by decide) he rfl
def oIx (x y : D) (Q : DK) : Prop := match x, y with
  | .tp xs, .it i => match atI xs i with | some d => Q d | none => False
  | .ls xs, .it i => match atI xs i with | some d => Q d | none => False
  | .st z, .it i => szOk z.length ∧ match atI z.cps.toList i with | some c => Q (.st ⟨#[c]⟩) | none => False
  | _, _ => False
theorem atI_rp {t : Option Bx} {F : Hp} {vs : List V} {ds : List D} (r : RpL t F vs ds) {i : Int} {d : D} (h : atI ds i = some d) : ∃ v, atI vs i = some v ∧ Rp t F v d := by
  unfold atI at h ⊢
  rw [← r.length] at h
  cases e : ixN vs.length i with
  | none => rw [e] at h; cases h
  | some j =>
    rw [e] at h
    obtain ⟨v, h1, h2⟩ := r.getD (i := j) h
    exact ⟨v, h1, h2⟩
theorem od_ix {K : PySem.W.Frag} (S : Sta) : OpD S (rIx K) oIx := by
  intro H x y dx dy Q Qd g rx ry h k
  unfold oIx at h
  split at h
  · cases ry
    cases rx with
    | tp e r =>
      split at h
      · next d ed =>
        obtain ⟨v, h1, h2⟩ := atI_rp r ed
        exact .inr (.inl ⟨_, _, _, v, rfl, rfl, SqT.of (g.fz _ _ e), h1, k.now g h2 h⟩)
      · exact h.elim
  · cases ry
    cases rx with
    | ls e r =>
      split at h
      · next d ed =>
        obtain ⟨v, h1, h2⟩ := atI_rp r ed
        exact .inl ⟨_, _, _, v, rfl, rfl, SqL.of (g.fz _ _ e), h1, k.now g h2 h⟩
      · exact h.elim
  · cases ry; cases rx
    obtain ⟨hz, h⟩ := h
    split at h
    · next c ec => exact .inr (.inr ⟨_, _, c, rfl, rfl, hz, ec, k.now g (.st _) h⟩)
    · exact h.elim
  · exact h.elim
theorem de_ix (ha : DE X E a da) (hb : DE X E b db) (hs : PlainIx b := by exact fun _ _ => rfl) : DE X E (.Subscript a b pos) (dOp oIx da db) := by
  obtain ⟨ta, pa, ra⟩ := ha.run
  obtain ⟨tb, pb, rb⟩ := hb.run
  refine ⟨_, pe_ix ix_seq pa pb hs, fun Z S H σ env Q Qd Ed g r l h k => ?_⟩
  refine ra Z S H σ env _ _ Ed g r l h fun x H1 S1 dx s1 g1 r1 h1 => ?_
  refine rb Z S1 H1 σ env _ _ Ed g1 (r.step s1) (l.step s1 g1) h1 fun y H2 S2 dy s2 g2 r2 h2 => ?_
  exact od_ix S2 H2 x y dx dy Q Qd g2 (r1.le s2.le) r2 h2 ((k.step s1 g1).step s2 g2)
def cutD (xs : List D) (lo hi : Option Int) : List D := (xs.drop (HT.sIx xs.length 0 lo)).take (HT.sIx xs.length xs.length hi - HT.sIx xs.length 0 lo)
theorem RpL.cut {t : Option Bx} {F : Hp} {vs : List V} {ds : List D} (r : RpL t F vs ds) (lo hi : Option Int) : RpL t F (cutV vs lo hi) (cutD ds lo hi) := by
  unfold cutV cutD
  rw [r.length]
  exact (r.drop _).take _
def oSl (x : D) (lo hi : Option Int) (Q : DK) : Prop := match x with
  | .tp xs => Q (.tp (cutD xs lo hi))
  | .ls xs => Q (.ls (cutD xs lo hi))
  | .st z => szOk z.length ∧ Q (.st (cutS z lo hi))
  | _ => False
abbrev DO_ := Env' → (Option Int → Prop) → EK → Prop
def ContO (S : Sta) (H : Hp) (Qd : Option Int → Prop) (Q : Option Int → Hp → Prop) : Prop := ∀ b H' S', Stp S H S' H' → Good S' H' → Qd b → Q b H'
structure DO (X : Cx) (E : XK) (e : Option Expr) (d : DO_) : Prop where
  run : ∃ t, PO X e t ∧ ∀ Z S H σ env Q Qd Ed, Good S H → Rel Z S H σ env → XLink X.mg S H Ed E → d env Qd Ed → ContO S H Qd Q → t σ H Q
def dNoPart : DO_ := fun _ Q _ => Q none
def dPart (da : DT_) : DO_ := fun env Q E => da env (fun x => match x with | .it i => Q (some i) | _ => False) E
theorem do_none : DO X E none dNoPart := ⟨_, po_none, fun _ S H _ _ _ _ _ g _ _ h k => k none H S (.refl S H) g h⟩
theorem do_some (ha : DE X E a da) : DO X E (some a) (dPart da) := by
  obtain ⟨t, p, q⟩ := ha.run
  refine ⟨_, po_some p, fun Z S H σ env Q Qd Ed g r l h k => ?_⟩
  refine q Z S H σ env _ _ Ed g r l h fun v H1 S1 x s1 g1 r1 h1 => ?_
  split at h1
  · cases r1
    exact ⟨_, rfl, k _ H1 S1 s1 g1 h1⟩
  · exact h1.elim
def dSl (da : DT_) (dl dh : DO_) : DT_ := fun env Q E => da env (fun x => dl env (fun lo => dh env (fun hi => oSl x lo hi Q) E) E) E
def rSlAny (K : PySem.W.Frag) : V → Option Int → Option Int → Hp → VK → Prop := fun x lo hi H Q => rSlA K x lo hi H Q ∨ rSlL K x lo hi H Q ∨ rSlS x lo hi H Q
theorem sl_any : SlR X (rSlAny X.K) := sl_tupA.or (sl_list.or sl_str)
theorem cut_whole {xs : List D} {lo hi : Option Int} (h : HT.sIx xs.length 0 lo = 0 ∧ HT.sIx xs.length xs.length hi = xs.length) : cutD xs lo hi = xs := by
  unfold cutD
  rw [h.1, h.2, List.drop_zero, Nat.sub_zero, List.take_length]
theorem de_slice {lo hi : Option Expr} {dl dh : DO_} {p2 : Pos} (ha : DE X E a da) (hl : DO X E lo dl) (hh : DO X E hi dh) : DE X E (.Subscript a (.Slice lo hi none p2) pos) (dSl da dl dh) := by
  obtain ⟨ta, pa, ra⟩ := ha.run
  obtain ⟨tl, pl, rl⟩ := hl.run
  obtain ⟨th, ph, rh⟩ := hh.run
  refine ⟨_, pe_slice sl_any pa pl ph, fun Z S H σ env Q Qd Ed g r l h k => ?_⟩
  refine ra Z S H σ env _ _ Ed g r l h fun x H1 S1 dx s1 g1 r1 h1 => ?_
  refine rl Z S1 H1 σ env _ _ Ed g1 (r.step s1) (l.step s1 g1) h1 fun o1 H2 S2 s2 g2 h2 => ?_
  have s12 := s1.trans g1 s2
  refine rh Z S2 H2 σ env _ _ Ed g2 (r.step s12) (l.step s12 g2) h2 fun o2 H3 S3 s3 g3 h3 => ?_
  have s13 := s12.trans g2 s3
  have k3 := k.step s13 g3
  have r3 := (r1.le s2.le).le s3.le
  unfold oSl at h3
  split at h3
  · next ds =>
    cases r3 with
    | tp e rr =>
      refine .inl ⟨_, _, rfl, SqT.of (g3.fz _ _ e), fun w => ?_, fun _ => k3.tup g3 (rr.cut o1 o2) h3⟩
      rw [rr.length] at w
      rw [cut_whole w] at h3
      exact k3.now g3 (.tp e rr) h3
  · next ds =>
    cases r3 with
    | ls e rr => exact .inr (.inl ⟨_, _, rfl, SqL.of (g3.fz _ _ e), k3.lst g3 (rr.cut o1 o2) h3⟩)
  · cases r3
    exact .inr (.inr ⟨_, rfl, h3.1, k3.now g3 (.st _) h3.2⟩)
  · exact h3.elim
def oList (xs : List D) (Q : DK) : Prop := match xs with | [.tp ys] => Q (.ls ys) | [.ls ys] => Q (.ls ys) | _ => False
def oTuple (xs : List D) (Q : DK) : Prop := match xs with | [.tp ys] => Q (.tp ys) | [.ls ys] => Q (.tp ys) | _ => False
theorem de_tuple {u : DA_} {e : Expr} {p : Pos} (hg : Gl X "tuple") (hm : X.mg "tuple" = none) (ha : DA X E [e] u) (he : starEach [e] X.env = (false, eval e X.env) :: starEach [] X.env := by rfl) : DE X E (.Call (.Name "tuple" p) [e] [] pos) (dCB oTuple u) := by
  refine de_callTy call_tuple_of (fun S => ?_) hg hm (by decide +kernel) ha (by decide) (by decide) he rfl
  intro H vs ds Q Qd g r h k
  unfold oTuple at h
  split at h
  · cases r with
    | cons r1 r2 =>
      cases r2
      cases r1 with
      | tp e rr => exact ⟨_, _, rfl, .inr ⟨SqT.of (g.fz _ _ e), k.now g (.tp e rr) h⟩⟩
  · cases r with
    | cons r1 r2 =>
      cases r2
      cases r1 with
      | ls e rr => exact ⟨_, _, rfl, .inl ⟨SqL.of (g.fz _ _ e), k.tup g rr h⟩⟩
  · exact h.elim
end
structure Base where
  S0 : Sta
  H0 : Hp
  F : Hp
  T : Option Bx
structure At (B : Base) (S : Sta) (H : Hp) : Prop where
  g : Good S H
  p : Stp B.S0 B.H0 S H
  f : Le B.T B.F S.bx S.F
theorem Le.trans {t1 t2 t3 : Option Bx} {F1 F2 F3 : Hp} (a : Le t1 F1 t2 F2) (b : Le t2 F2 t3 F3) : Le t1 F1 t3 F3 := ⟨fun x o e => b.f x o (a.f x o e), fun x e => b.t x (a.t x e)⟩
theorem Le.refl (t : Option Bx) (F : Hp) : Le t F t F := ⟨fun _ _ e => e, fun _ e => e⟩
theorem At.step {B : Base} {S S' : Sta} {H H' : Hp} (a : At B S H) (p : Stp S H S' H') (g : Good S' H') : At B S' H' := ⟨g, a.p.trans a.g p, a.f.trans p.le⟩
def Base.now (B : Base) (S : Sta) : Base := { B with F := S.F, T := S.bx }
theorem At.now {B : Base} {S : Sta} {H : Hp} (a : At B S H) : At (B.now S) S H := ⟨a.g, a.p, .refl _ _⟩
theorem At.was {B : Base} {S S' : Sta} {H H' : Hp} (a : At B S H) (b : At (B.now S) S' H') : At B S' H' := ⟨b.g, b.p, a.f.trans b.f⟩
structure DEnds where
  nx : Env' → Prop
  rt : DK
  ex : EK
  bk : Env' → Prop := fun _ => False
  ct : Env' → Prop := fun _ => False
structure Lnk (mg : Str → Option Value) (E : XK) (B : Base) (De : DEnds) (Dn : Ends) : Prop where
  nx : ∀ S σ env H, At B S H → Rel B.H0 S H σ env → De.nx env → Dn.nx σ H
  bk : ∀ S σ env H, At B S H → Rel B.H0 S H σ env → De.bk env → Dn.bk σ H
  ct : ∀ S σ env H, At B S H → Rel B.H0 S H σ env → De.ct env → Dn.ct σ H
  rt : ∀ S v d H, At B S H → Rp S.bx S.F v d → De.rt d → Dn.rt v H
  ex : XLink mg B.S0 B.H0 De.ex E
theorem Lnk.xl {mg : Str → Option Value} {E : XK} {B : Base} {De : DEnds} {Dn : Ends} (l : Lnk mg E B De Dn) {S : Sta} {H : Hp} (a : At B S H) : XLink mg S H De.ex E := l.ex.step a.p a.g
abbrev DS_ := DEnds → Env' → Prop
structure DS (X : Cx) (E : XK) (st : Stmt) (d : DS_) : Prop where
  run : ∃ t, PS X st t ∧ ∀ B De Dn, Lnk X.mg E B De Dn → ∀ S σ env H, At B S H → Rel B.H0 S H σ env → d De env → t Dn σ H
structure DSs (X : Cx) (E : XK) (st : List Stmt) (d : DS_) : Prop where
  run : ∃ t, PSs X st t ∧ ∀ B De Dn, Lnk X.mg E B De Dn → ∀ S σ env H, At B S H → Rel B.H0 S H σ env → d De env → t Dn σ H
section
variable {X : Cx} {E : XK} {pos : Pos} {st : Stmt} {rest : List Stmt} {d u : DS_} {e : Expr} {de : DT_}
def dNext : DS_ := fun D env => D.nx env
def dSeq (d u : DS_) : DS_ := fun D env => d { D with nx := u D } env
theorem ds_nil : DSs X E [] dNext := ⟨_, pss_nil, fun _ _ _ l S σ env H a r h => l.nx S σ env H a r h⟩
theorem ds_cons (h1 : DS X E st d) (h2 : DSs X E rest u) : DSs X E (st :: rest) (dSeq d u) := by
  obtain ⟨t, p, q⟩ := h1.run
  obtain ⟨t', p', q'⟩ := h2.run
  refine ⟨_, pss_cons p p', fun B De Dn l S σ env H a r h => ?_⟩
  exact q B { De with nx := u De } { Dn with nx := t' Dn } ⟨fun S σ env H a r h => q' B De Dn l S σ env H a r h, l.bk, l.ct, l.rt, l.ex⟩ S σ env H a r h
theorem ds_one (h1 : DS X E st d) : DSs X E [st] d := let ⟨t, p, q⟩ := h1.run; ⟨t, pss_one p, q⟩
def dBreak : DS_ := fun D env => D.bk env
def dContinue : DS_ := fun D env => D.ct env
def dRet (de : DT_) : DS_ := fun D env => de env D.rt D.ex
theorem ds_ret (he : DE X E e de) : DS X E (.Return (some e) pos) (dRet de) := by
  obtain ⟨t, p, q⟩ := he.run
  refine ⟨_, ps_ret p, fun B De Dn l S σ env H a r h => ?_⟩
  exact q _ S H σ env _ _ _ a.g r (l.xl a) h fun v H1 S1 x s1 g1 r1 h1 => l.rt S1 v x H1 (a.step s1 g1) r1 h1
def dRetN : DS_ := fun D _ => D.rt .non
def dDrop (de : DT_) : DS_ := fun D env => de env (fun _ => D.nx env) D.ex
def dIfS (t : DB_) (d u : DS_) : DS_ := fun D env => t env (fun b => match b with | true => d D env | false => u D env) D.ex
theorem ds_if {c : Expr} {ss rs : List Stmt} {t : DB_} (hc : DB X E c t) (hd : DSs X E ss d) (hu : DSs X E rs u) : DS X E (.If c ss rs pos) (dIfS t d u) := by
  obtain ⟨tc, p, q⟩ := hc.run
  obtain ⟨t1, p1, q1⟩ := hd.run
  obtain ⟨t2, p2, q2⟩ := hu.run
  refine ⟨_, ps_if p p1 p2, fun B De Dn l S σ env H a r h => ?_⟩
  refine q _ S H σ env _ _ _ a.g r (l.xl a) h fun b H1 S1 s1 g1 h1 => ?_
  cases b with
  | true => rw [if_pos rfl]; exact q1 B De Dn l S1 σ env H1 (a.step s1 g1) (r.step s1) h1
  | false => rw [if_neg Bool.false_ne_true]; exact q2 B De Dn l S1 σ env H1 (a.step s1 g1) (r.step s1) h1
abbrev DG_ := D → Env' → (Env' → Prop) → Prop
structure DG (X : Cx) (tg : Expr) (vs : List Nat) (d : DG_) : Prop where
  run : ∃ g, PG X tg g ∧ ∀ Z S H σ env x dx Q Qd, Rel Z S H σ env → Good S H → Rp S.bx S.F x dx → d dx env Qd → (∀ σ2 env2, Rel Z S H σ2 env2 → Qd env2 → (∀ ws : List Nat, (∀ i ∈ vs, i ∈ ws) → wipe σ2 ws = wipe σ ws) → Q σ2 H) → g x σ H Q
structure DGs (X : Cx) (tg : List Expr) (vs : List Nat) (d : List D → Env' → (Env' → Prop) → Prop) : Prop where
  run : ∃ g, PGs X tg g ∧ ∀ Z S H σ env xs ds Q Qd, Rel Z S H σ env → Good S H → RpL S.bx S.F xs ds → d ds env Qd → (∀ σ2 env2, Rel Z S H σ2 env2 → Qd env2 → (∀ ws : List Nat, (∀ i ∈ vs, i ∈ ws) → wipe σ2 ws = wipe σ ws) → Q σ2 H) → g xs σ H Q
theorem wipe_set {σ : L2.St} {i : Nat} {v : Option V} : ∀ {ws : List Nat}, i ∈ ws → wipe (σ.set i v) ws = wipe σ ws
  | j :: ws, h => by
    unfold wipe
    by_cases e : i ∈ ws
    · rw [wipe_set e]
    · have : i = j := by
        rcases List.mem_cons.mp h with h | h
        · exact h
        · exact absurd h e
      subst this
      have wc : ∀ (ws : List Nat) (τ : L2.St) (w : Option V), i ∉ ws → wipe (τ.set i w) ws = (wipe τ ws).set i w := by
        intro ws
        induction ws with
        | nil => intro τ w _; rfl
        | cons k r ih =>
          intro τ w hk
          unfold wipe
          rw [ih τ w (fun z => hk (List.mem_cons_of_mem _ z))]
          have : i ≠ k := fun z => hk (by rw [z]; exact List.mem_cons_self)
          rw [List.set_comm _ _ this]
      rw [wc ws σ v e, List.set_set]
def dgName (i : Nat) : DG_ := fun x env Q => Q (env.set i (.v x))
theorem dg_name (i : Nat) {x : Str} (hN : X.N.Nodup) (hi : X.N[i]? = some x := by rfl) (hx : Loc X.env.scope x := by first | exact Or.inl rfl | exact Or.inr rfl) (hf : X.fn x = true ∨ X.env.scope.names.lookup x = some .local := by first | exact .inl rfl | exact .inr rfl | assumption) :
    DG X (.Name x pos) [i] (dgName i) := by
  refine ⟨_, pg_name hN hi hx hf, fun Z S H σ env x dx Q Qd r g rx h k => ?_⟩
  exact k _ _ (r.put rx) h fun ws hw => wipe_set (hw i (by simp))
def dgNil : List D → Env' → (Env' → Prop) → Prop := fun xs env Q => match xs with | [] => Q env | _ => False
def dgCons (d : DG_) (u : List D → Env' → (Env' → Prop) → Prop) : List D → Env' → (Env' → Prop) → Prop := fun xs env Q => match xs with | x :: r => d x env (fun env1 => u r env1 Q) | [] => False
theorem dgs_nil : DGs X [] [] dgNil := by
  refine ⟨_, pgs_nil, fun Z S H σ env xs ds Q Qd r g rx h k => ?_⟩
  cases rx with
  | nil => exact ⟨rfl, k σ env r h fun _ _ => rfl⟩
  | cons => exact h.elim
theorem dgs_cons {tgs : List Expr} {vs ws : List Nat} {d : DG_} {u : List D → Env' → (Env' → Prop) → Prop} (h1 : DG X e vs d) (h2 : DGs X tgs ws u) (hs : (assignEach (e :: tgs) X.env).map (·.2) = assign e X.env :: (assignEach tgs X.env).map (·.2) := by rfl) :
    DGs X (e :: tgs) (vs ++ ws) (dgCons d u) := by
  obtain ⟨g1, p1, q1⟩ := h1.run
  obtain ⟨g2, p2, q2⟩ := h2.run
  refine ⟨_, pgs_cons p1 p2 hs, fun Z S H σ env xs ds Q Qd r g rx h k => ?_⟩
  cases rx with
  | nil => exact h.elim
  | cons rx rs =>
    refine ⟨_, _, rfl, q1 Z S H σ env _ _ _ _ r g rx h fun σ2 env2 r2 h2 w2 => ?_⟩
    refine q2 Z S H σ2 env2 _ _ _ _ r2 g rs h2 fun σ3 env3 r3 h3 w3 => ?_
    exact k σ3 env3 r3 h3 fun l hl => (w3 l fun i hi => hl i (List.mem_append_right _ hi)).trans (w2 l fun i hi => hl i (List.mem_append_left _ hi))
def dgTup (n : Nat) (u : List D → Env' → (Env' → Prop) → Prop) : DG_ := fun x env Q => match x with | .tp xs => xs.length = n ∧ u xs env Q | _ => False
theorem dg_tup {tgs : List Expr} {k : Nat} {vs : List Nat} {n : Nat} {u : List D → Env' → (Env' → Prop) → Prop} (hc : X.calm = true) (h : DGs X tgs vs u) (hn : (assignEach tgs X.env).length = n := by rfl) (hst : (assignEach tgs X.env).findIdx? (·.1) = none := by rfl) :
    DG X (.Tuple tgs k pos) vs (dgTup n u) := by
  obtain ⟨g, p, q⟩ := h.run
  refine ⟨_, pg_tup hc p hn hst, fun Z S H σ env x dx Q Qd r g rx h k => ?_⟩
  unfold dgTup at h
  split at h
  · cases rx with
    | tp e rr => exact ⟨_, _, rfl, SqT.of (g.fz _ _ e), by rw [rr.length]; exact h.1, q Z S H σ env _ _ _ _ r g rr h.2 k⟩
  · exact h.elim
def dgLst (n : Nat) (u : List D → Env' → (Env' → Prop) → Prop) : DG_ := fun x env Q => match x with | .ls xs => xs.length = n ∧ u xs env Q | _ => False
theorem dg_lst {tgs : List Expr} {k : Nat} {vs : List Nat} {n : Nat} {u : List D → Env' → (Env' → Prop) → Prop} (hc : X.calm = true) (h : DGs X tgs vs u) (hn : (assignEach tgs X.env).length = n := by rfl) (hst : (assignEach tgs X.env).findIdx? (·.1) = none := by rfl) :
    DG X (.Tuple tgs k pos) vs (dgLst n u) := by
  obtain ⟨g, p, q⟩ := h.run
  refine ⟨_, pg_lst hc p hn hst, fun Z S H σ env x dx Q Qd r g rx h k => ?_⟩
  unfold dgLst at h
  split at h
  · cases rx with
    | ls e rr => exact ⟨_, _, rfl, SqL.of (g.fz _ _ e), by rw [rr.length]; exact h.1, q Z S H σ env _ _ _ _ r g rr h.2 k⟩
  · exact h.elim
def dAsg (de : DT_) (dg : DG_) : DS_ := fun D env => de env (fun x => dg x env D.nx) D.ex
theorem ds_asg {tg : Expr} {vs : List Nat} {dg : DG_} (he : DE X E e de) (hg : DG X tg vs dg) (hs : swapsWithSole [tg] e pos.line X.env = pure false := by rfl) (hw : swappedStores [tg] e X.env = pure none := by rfl)
    (h1 : (assignEach [tg] X.env).map (·.2) = [assign tg X.env] := by rfl) : DS X E (.Assign [tg] e pos) (dAsg de dg) := by
  obtain ⟨t, p, q⟩ := he.run
  obtain ⟨g, pg, qg⟩ := hg.run
  refine ⟨_, ps_asg p pg hs hw h1, fun B De Dn l S σ env H a r h => ?_⟩
  refine q _ S H σ env _ _ _ a.g r (l.xl a) h fun v H1 S1 x s1 g1 r1 h1 => ?_
  exact qg _ S1 H1 σ env v x _ _ (r.step s1) g1 r1 h1 fun σ2 env2 r2 h2 _ => l.nx S1 σ2 env2 H1 (a.step s1 g1) r2 h2
def dSet (i : Nat) (de : DT_) : DS_ := fun D env => de env (fun x => D.nx (env.set i (.v x))) D.ex
theorem ds_set (i : Nat) {x : Str} {p' : Pos} (he : DE X E e de) (hN : X.N.Nodup) (hi : X.N[i]? = some x := by rfl) (hx : Loc X.env.scope x := by first | exact Or.inl rfl | exact Or.inr rfl) (hs : swapsWith e (some (.Name x p')) pos.line X.env = pure false := by rfl)
    (hf : X.fn x = true ∨ X.env.scope.names.lookup x = some .local := by first | exact .inl rfl | exact .inr rfl | assumption) : DS X E (.Assign [.Name x p'] e pos) (dSet i de) := by
  obtain ⟨t, p, q⟩ := he.run
  refine ⟨_, ps_set hN hi hx p hs hf, fun B De Dn l S σ env H a r h => ?_⟩
  refine q _ S H σ env _ _ _ a.g r (l.xl a) h fun v H1 S1 x s1 g1 r1 h1 => ?_
  exact l.nx S1 _ _ H1 (a.step s1 g1) ((r.step s1).put r1) h1
def dPar (i j : Nat) (da : DA_) : DS_ := fun D env => da env (fun xs => match xs with | [x, y] => D.nx ((env.set i (.v x)).set j (.v y)) | _ => False) D.ex
theorem ds_par {i j : Nat} {x y : Str} {a b : Expr} {da : DA_} {px py pt : Pos} {kt k2 pt2} (hc : X.calm = true) (hN : X.N.Nodup) (ha : DA X E [a, b] da)
    (hw : swappedStores [.Tuple [.Name x px, .Name y py] kt pt] (.Tuple [a, b] k2 pt2) X.env = pure (some [x, y])) (hi : X.N[i]? = some x := by rfl) (hj : X.N[j]? = some y := by rfl) (hij : i ≠ j := by decide)
    (hx : X.env.scope.names.lookup x = some .local := by rfl) (hy : X.env.scope.names.lookup y = some .local := by rfl)
    (hs : swapsWithSole [.Tuple [.Name x px, .Name y py] kt pt] (.Tuple [a, b] k2 pt2) pos.line X.env = pure false := by rfl) :
    DS X E (.Assign [.Tuple [.Name x px, .Name y py] kt pt] (.Tuple [a, b] k2 pt2) pos) (dPar i j da) := by
  obtain ⟨t, p, q⟩ := ha.run
  refine ⟨_, ps_par hc hN hi hj hij hx hy p hw hs, fun B De Dn l S σ env H a r h => ?_⟩
  refine q _ S H σ env _ _ _ a.g r (l.xl a) h fun vs H1 S1 xs s1 g1 r1 h1 => ?_
  split at h1
  · cases r1 with
    | cons r1 r2 =>
      cases r2 with
      | cons r2 r3 =>
        cases r3
        exact ⟨_, _, rfl, l.nx S1 _ _ H1 (a.step s1 g1) (((r.step s1).put r1).put r2) h1⟩
  · exact h1.elim
def dAug (i : Nat) (f : Int → Int → Int) (de : DT_) : DS_ := fun D env => match env[i]? with | some (.v (.it n)) => de env (fun x => match x with | .it m => D.nx (env.set i (.v (.it (f n m)))) | _ => False) D.ex | _ => False
structure DN (X : Cx) (E : XK) (e : Expr) (d : Env' → (List D → Prop) → EK → Prop) : Prop where
  run : ∃ t, PE X e t ∧ ∀ Z S H σ env Q (Qd : List D → Prop) Ed, Good S H → Rel Z S H σ env → XLink X.mg S H Ed E → d env Qd Ed →
    (∀ p H' S' vs xs, Stp S H S' H' → Good S' H' → H p = none → H' p = some (.lst vs) → S'.F p = none → ¬ InB S'.bx p → RpL S'.bx S'.F vs xs → Qd xs → Q (.ref p) H') → t σ H Q
abbrev DN_ := Env' → (List D → Prop) → EK → Prop
def dFrz (d : DN_) : DT_ := fun env Q E => d env (fun xs => Q (.ls xs)) E
theorem DN.toDE {d : DN_} (h : DN X E e d) : DE X E e (dFrz d) := by
  obtain ⟨t, p, q⟩ := h.run
  refine ⟨_, p, fun Z S H σ env Q Qd Ed g r l h k => ?_⟩
  refine q Z S H σ env _ _ Ed g r l h fun p H' S' vs xs s' g' h0 h1 h2 h3 r' h' => ?_
  have le : Le S'.bx S'.F S'.bx (upd S'.F p (.lst vs)) := ⟨fun b o e => by
    have : b ≠ p := fun z => by rw [z, h2] at e; cases e
    rw [upd_ne this]; exact e, fun x e => e⟩
  refine k _ H' ⟨S'.bx, upd S'.F p (.lst vs)⟩ (.ls xs) ⟨fun a o e => le.f a o (s'.ext a o e), fun a o e => ?_, s'.box, s'.keep⟩ (good_frz g' h1 h3) (.ls (by show upd S'.F p (.lst vs) p = _; exact upd_same) (r'.le le)) h'
  by_cases z : a = p
  · rw [z]; exact .inr h0
  · have e' : upd S'.F p (.lst vs) a = some o := e
    rw [upd_ne z] at e'
    exact s'.new a o e'
end
set_option maxHeartbeats 8000000 in
theorem enumNew1 {v : Value} {ob : Obj} {Hq : Heap → Prop} (B : Begins v ob Hq) :
    Meets (Builtin.«enumerate.__new__» ⟨[.type "enumerate", v], []⟩) (fun _ R s0 => Hq s0.heap ∧ R (.ok (.ret (.ref (s0.heap.push ob).objs.size)))
      { s0 with heap := (s0.heap.push ob).push { cls := .type "enumerate", data := .fields #[.none, .bool false, .ref s0.heap.objs.size, rawInt 0, .none, .none] } }) :=
  .of_wp fun P W A0 R0 s0 h0 => by
    obtain ⟨hh, gg, dd, tt, oo⟩ := s0; obtain ⟨hb, hr⟩ := h0
    have subE := sub_enumerate
    have begin_ : ∀ {A1 : Around} {E1 : Value → Shared → Prop} {Q1 : Value → Shared → Prop}, Q1 (.ref hh.objs.size) ⟨hh.push ob, gg, dd, tt, oo⟩ → wpAny (model P W) A1 (pyIter v) Q1 E1 ⟨hh, gg, dd, tt, oo⟩ :=
      fun z => B.iter P W _ _ ⟨hh, gg, dd, tt, oo⟩ _ hb z
    wp_walk using begin_
    refine wpAny_stack_any fun fr => wpAny_pure ?_
    split
    · rename_i cc _ _ _ _ _
      cases (cc == Value.type "enumerate") <;> (wp_walk using begin_; exact ⟨_, rfl, hr⟩)
    · wp_walk using begin_; exact ⟨_, rfl, hr⟩
section
variable {prog : Program} {w : World} {A : Around} {E : Value → Shared → Prop} {s : Shared}
theorem callEnum1 {v : Value} {ob : Obj} {Hq : Heap → Prop} {Q : Value → Shared → Prop} (B : Begins v ob Hq) (hb : Hq s.heap)
    (k : ∀ h', IsEnum h' (s.heap.objs.size + 1) s.heap.objs.size 0 .none → h'.get? s.heap.objs.size = some ob → (∀ b o, s.heap.get? b = some o → h'.get? b = some o) → Q (.ref (s.heap.objs.size + 1)) { s with heap := h' }) :
    wpAny (model prog w) A (call (.type "enumerate") [v]) Q E s := by
  refine callType_new F.called_enumerate (by decide) (F.typeCall_enumerate_1 _) (F.newCall_enumerate_1 _) (fun z => F.args_object_init_2 z _) F.entry_enumerate_new (enumNew1 B) ⟨hb, ?_⟩
  have sz : (s.heap.push ob).objs.size = s.heap.objs.size + 1 := Heap.size_push ..
  show _ ∧ _
  rw [sz]
  have isE : IsEnum ((s.heap.push ob).push { cls := .type "enumerate", data := .fields #[.none, .bool false, .ref s.heap.objs.size, rawInt 0, .none, .none] }) (s.heap.objs.size + 1) s.heap.objs.size 0 .none := by
    have q := Heap.get?_push_size (s.heap.push ob) (o := { cls := .type "enumerate", data := .fields #[.none, .bool false, .ref s.heap.objs.size, rawInt 0, .none, .none] }) rfl
    rw [sz] at q; exact q
  exact ⟨⟨_, isE, rfl⟩, k _ isE (Heap.get?_push_of_some _ (Heap.get?_push_size _ B.free)) fun b o z => Heap.get?_push_of_some _ (Heap.get?_push_of_some _ z)⟩
end
def Itg (src : Hp → Prop) (n : Nat) (its : Nat → List V) : It :=
  ⟨fun i H => i < n ∧ src H, fun i H x H' => ∃ T, x = .ref T ∧ H T = none ∧ H' = upd H T (.tup (its i)), fun i H => i = n ∧ src H⟩
theorem turn_g {P : Program} {w : World} {K : PySem.W.Frag} {tg : Expr} {I : Addr} {fp wr sp : List Addr} {n : Nat} {src : Hp → Prop} {its : Nat → List V} {tn : Nat → Heap → Prop} {Src : Heap → Prop}
    (hI : I ∈ fp) (hw : ∀ b ∈ wr, b ∈ fp) (hl : ∀ i, i < n → (its i).length ≤ sizeLine)
    (obj : ∀ i h, tn i h → ∀ b ∈ fp, ∃ o, h.get? b = some o ∧ ∀ v, o.data ≠ .cell v) (keep : ∀ i h h', tn i h → (∀ b ∈ fp, ∀ o, h.get? b = some o → h'.get? b = some o) → tn i h')
    (hs : ∀ (X : Cx), X.prog = P → X.w = w → X.K = K → ∀ pins s σ H, Inv X pins σ H s → src H → Src s.heap)
    (self : ∀ (A : Around) (i : Nat) (s : Shared) (Q E : Value → Shared → Prop), tn i s.heap → Q (.ref I) s → wpAny (model P w) A (pyIter (.ref I)) Q E s)
    (G : ∀ A : Around, A.handled = none → GoesN P w A tg I (fp ++ sp) wr n (fun i h0 v h => ∃ T us, v = Value.ref T ∧ h0.objs.size ≤ T ∧ Vals (its i) us ∧ h.IsTuple T us.toArray) (fun i h => tn i h ∧ Src h)) :
    Turn P w K tg (Itg src n its) fp I tn where
  mem := hI
  obj := obj
  keep := keep
  item := by
    intro X hP hw' hK hc i pins s σ H E IV hf st hg
    subst hP hw' hK
    refine (G X.A (IV.ok.hd hc)).goes i s _ E hg.1 ⟨st, hs X rfl rfl rfl pins s σ H IV hg.2⟩ fun v h' tk hY st' hk htk => ?_
    obtain ⟨T, us, rfl, hT, rv, o, ho, hcl, m, hd⟩ := hY
    have new : ObjOk X.prog X.w (upd H T (.tup (its i))) h' T (.tup (its i)) := ⟨hl i hg.1, us, rv, ⟨o, ho, hcl, m, hd⟩⟩
    have I1 := IV.turnedNew (t' := tk) (ch := fp) (fun b ob hb q => hk b ob (fun z => hb (hw b z)) q) hf hT new
    refine ⟨.ref T, _, I1, rfl, ⟨T, rfl, IV.hok.fresh hT, rfl⟩, st'.1, fun b hb => ?_⟩
    obtain ⟨ob, eo, _⟩ := obj i _ st b hb
    rw [upd_ne (Nat.ne_of_lt (Nat.lt_of_lt_of_le (Heap.lt_size eo) hT))]
    exact (hf b hb).1
  done := by
    intro X hP hw' hK hc i pins s σ H E IV hf st hg
    subst hP hw' hK
    obtain ⟨rfl, hsrc⟩ := hg
    refine wpAny_mono ((G X.A (IV.ok.hd hc)).stops s (fun s1 => Inv X pins σ H s1) E ⟨st, hs X rfl rfl rfl pins s σ H IV hsrc⟩ fun h' tk hk htk => IV.turnedL (t' := tk) (ch := fp) (fun b ob hb q => hk b ob (fun z => hb (hw b z)) q) hf) (fun _ _ z => z) fun _ _ z => z
  self := self
def ItIs (b : Bool) (h : Heap) (it l : Addr) (i : Nat) : Prop := if b = true then h.IsListIter it l i else h.IsTupleIter it l i
def SqIs (b : Bool) (h : Heap) (l : Addr) (us : Array Value) : Prop := if b = true then h.IsList l us else h.IsTuple l us
def ItOb (b : Bool) (l : Addr) : Obj := if b = true then { cls := .type "list_iterator", data := .fields #[.ref l, .int 0 0] } else { cls := .type "tuple_iterator", data := .fields #[.ref l, .int 0 0] }
def SqB (b : Bool) (K : PySem.W.Frag) (H : Hp) (l : Addr) (xs : List V) : Prop := if b = true then SqL K H l xs else SqT K H l xs
theorem itIs_obj {b : Bool} {h : Heap} {it l : Addr} {i : Nat} (st : ItIs b h it l i) : ∃ o, h.get? it = some o ∧ ∀ v, o.data ≠ .cell v := by
  cases b with
  | true => obtain ⟨o, e, _, d⟩ := (show h.IsListIter it l i from st); exact ⟨o, e, fun v z => by rw [d] at z; cases z⟩
  | false => obtain ⟨o, e, _, d⟩ := (show h.IsTupleIter it l i from st); exact ⟨o, e, fun v z => by rw [d] at z; cases z⟩
theorem itIs_keep {b : Bool} {h h' : Heap} {it l : Addr} {i : Nat} (st : ItIs b h it l i) (k : ∀ o, h.get? it = some o → h'.get? it = some o) : ItIs b h' it l i := by
  cases b with
  | true => exact Heap.IsListIter.at (show h.IsListIter it l i from st) k
  | false => exact Heap.IsTupleIter.at (show h.IsTupleIter it l i from st) k
theorem itIs_new {b : Bool} {h : Heap} {it l : Addr} (e : h.get? it = some (ItOb b l)) : ItIs b h it l 0 := by
  cases b with
  | true => exact ⟨_, e, rfl, rfl⟩
  | false => exact ⟨_, e, rfl, rfl⟩
theorem begins_b (b : Bool) (l : Addr) (us : Array Value) : Begins (.ref l) (ItOb b l) fun h => SqIs b h l us := by
  cases b with
  | true => exact begins_list l us
  | false => exact begins_tuple l us
theorem begins_s (b : Bool) (l : Addr) (xs : List V) : Begins (.ref l) (ItOb b l) fun h => ∃ us, Vals xs us ∧ SqIs b h l us.toArray where
  iter := fun P w A E s Q h q => let ⟨us, _, hs⟩ := h; (begins_b b l us.toArray).iter P w A E s Q hs q
  keeps := fun h h' ⟨us, r, hs⟩ k => ⟨us, r, (begins_b b l us.toArray).keeps h h' hs k⟩
  free := (begins_b b l #[]).free
theorem draws_b {prog : Program} {w : World} {A : Around} (hh : A.handled = none) (b : Bool) (it l : Addr) (hne : l ≠ it) (us : Array Value) :
    Draws prog w A it [it, l] us.size (fun i v => us[i]? = some v) (fun i h => ItIs b h it l i ∧ SqIs b h l us) := by
  cases b with
  | true => exact Draws.list hh it l hne us
  | false => exact Draws.tuple hh it l hne us
theorem draws_s {prog : Program} {w : World} {A : Around} (hh : A.handled = none) (b : Bool) (it l : Addr) (hne : l ≠ it) (xs : List V) :
    Draws prog w A it [it, l] xs.length (fun i v => ∃ x, xs[i]? = some x ∧ RelV x v) (fun i h => ItIs b h it l i ∧ ∃ us, Vals xs us ∧ SqIs b h l us.toArray) where
  live := fun i h st => let ⟨us, _, q⟩ := st.2; (draws_b (prog := prog) (w := w) hh b it l hne us.toArray).live i h ⟨st.1, q⟩
  frame := fun i h h' st k => by
    obtain ⟨us, r, q⟩ := st.2
    have z := (draws_b (prog := prog) (w := w) hh b it l hne us.toArray).frame i h h' ⟨st.1, q⟩ k
    exact ⟨z.1, us, r, z.2⟩
  item := fun i s Q E hi st hQ => by
    obtain ⟨us, r, q⟩ := st.2
    refine (draws_b (prog := prog) (w := w) hh b it l hne us.toArray).item i s Q E (by have := r.length; simp; omega) ⟨st.1, q⟩ fun x h' tk hx st' sb => ?_
    refine hQ x h' tk ?_ ⟨st'.1, us, r, st'.2⟩ sb
    have hx' : us[i]? = some x := by simpa using hx
    have : xs[i]? = some xs[i] := List.getElem?_eq_getElem hi
    obtain ⟨u, h1, h2⟩ := r.get this
    rw [h1] at hx'; cases hx'
    exact ⟨_, this, h2⟩
  done := fun s Q E st hE => by
    obtain ⟨us, r, q⟩ := st.2
    have e : us.toArray.size = xs.length := by have := r.length; simp; omega
    refine (draws_b (prog := prog) (w := w) hh b it l hne us.toArray).done s Q E ⟨?_, q⟩ hE
    rw [e]; exact st.1
theorem sq_src {X : Cx} {pins : List (Addr × Obj)} {s : Shared} {σ : L2.St} {H : Hp} {b : Bool} {l : Addr} {xs : List V} (I : Inv X pins σ H s) (h : SqB b X.K H l xs) : ∃ us, Vals xs us ∧ SqIs b s.heap l us.toArray := by
  cases b with
  | true => obtain ⟨us, r, p, _⟩ := I.list (show SqL X.K H l xs from h); exact ⟨us, r, p.isList⟩
  | false => obtain ⟨us, r, p, _⟩ := I.tuple (show SqT X.K H l xs from h); exact ⟨us, r, p⟩
def enIts (xs : List V) (i : Nat) : List V := [.int (i : Nat), xs.getD i .non]
theorem getD_of {xs : List V} {i : Nat} {x : V} (h : xs[i]? = some x) : xs.getD i .non = x := by
  rw [List.getD_eq_getElem?_getD, h]; rfl
def iEnumB (K : PySem.W.Frag) (ta : TA) : TI := fun σ H R => ta σ H fun vs H1 => ∃ a xs b, vs = [.ref a] ∧ SqB b K H1 a xs ∧ R (Itg (fun H => SqB b K H a xs) xs.length (enIts xs)) H1
theorem pi_enumB {X : Cx} {e : Expr} {ta : TA} {p pos tpos : Pos} {elts : List Expr} {kk : Nat} (hg : Gl X "enumerate") (hm : X.mg "enumerate" = none) (ha : PA X [e] ta) (hs : starEach [e] X.env = [(false, eval e X.env)] := by rfl) :
    PI X (.Tuple elts kk tpos) (.Call (.Name "enumerate" p) [e] [] pos) (iEnumB X.K ta) := by
  refine ⟨fun pins s σ H R I h => ?_⟩
  refine Call_ (ld_blt I hg hm boot_enumerate (PyProof.Rows.callWith_type1 (thn (ha.run pos pins s σ H _ I h) fun us s1 ⟨vs, H1, I1, r1, q1⟩ => ?_) hs rfl))
  obtain ⟨a, xs, b, ex, hq, q⟩ := q1
  subst ex
  cases r1 with
  | cons r rr =>
    cases rr
    cases r
    have src0 := sq_src I1 hq
    have la : a < s1.heap.objs.size := by
      obtain ⟨us, _, z⟩ := src0
      cases b with
      | true => obtain ⟨o, z, _⟩ := (show s1.heap.IsList a us.toArray from z); exact Heap.lt_size z
      | false => obtain ⟨o, z, _⟩ := (show s1.heap.IsTuple a us.toArray from z); exact Heap.lt_size z
    refine callEnum1 (begins_s b a xs) src0 fun h' he hit hk => wpAny_pyIter_enum he ?_
    have I2 : Inv X pins σ H1 { s1 with heap := h' } := I1.kept (t' := s1.toks) hk
    have hne : (s1.heap.objs.size + 1 : Nat) ≠ s1.heap.objs.size := Nat.succ_ne_self _
    have ena : (s1.heap.objs.size + 1 : Nat) ≠ a := Nat.ne_of_gt (Nat.lt_succ_of_lt la)
    have tu : Turn X.prog X.w X.K (.Tuple elts kk tpos) (Itg (fun H => SqB b X.K H a xs) xs.length (enIts xs)) [s1.heap.objs.size + 1, s1.heap.objs.size] (s1.heap.objs.size + 1)
        (fun i h => (∃ old, IsEnum h (s1.heap.objs.size + 1) s1.heap.objs.size (0 + ((i : Nat) : Int)) old) ∧ ItIs b h s1.heap.objs.size a i) := by
      refine turn_g (wr := [s1.heap.objs.size + 1, s1.heap.objs.size]) (sp := [a]) (Src := fun h => ∃ us, Vals xs us ∧ SqIs b h a us.toArray) (by simp) (fun b hb => hb) (fun i _ => by show 2 ≤ sizeLine; decide) (fun i h st c hc => ?_) (fun i h h' st k => ?_)
        (fun Y e1 e2 e3 pins s σ H J hsrc => by rw [← e3] at hsrc; exact sq_src J hsrc) (fun A i s Q E st hQ => let ⟨_, he⟩ := st.1; wpAny_pyIter_enum he hQ) (fun A hh => ?_)
      · have e' : c = s1.heap.objs.size + 1 ∨ c = s1.heap.objs.size := by simpa using hc
        obtain ⟨⟨old, he⟩, hi⟩ := st
        rcases e' with z | z
        · rw [z]; exact ⟨_, he, fun v q => nomatch q⟩
        · rw [z]; exact itIs_obj hi
      · obtain ⟨⟨old, he⟩, hi⟩ := st
        exact ⟨⟨old, k _ (by simp) _ he⟩, itIs_keep hi fun o z => k _ (by simp) o z⟩
      · have G := GoesN.enumFrom (prog := X.prog) (w := X.w) (A := A) (elts := elts) (x1 := kk) (pos := tpos) 0 (draws_s (prog := X.prog) (w := X.w) (A := A.in1) hh b s1.heap.objs.size a (Nat.ne_of_lt la) xs) (s1.heap.objs.size + 1) hne (by simp; exact ena) (by simp)
        refine ⟨G.sub, fun i h h' st k => ?_, fun i s Q E hi st hQ => ?_, fun s Q E st hQ => ?_, fun i s Q E st hQ => G.self i s Q E ⟨st.1.1, st.1.2, st.2⟩ hQ⟩
        · have z := G.frame i h h' ⟨st.1.1, st.1.2, st.2⟩ k
          exact ⟨⟨z.1, z.2.1⟩, z.2.2⟩
        · refine G.goes i s Q E hi ⟨st.1.1, st.1.2, st.2⟩ fun v h' tk hY st' hk htk => hQ v h' tk ?_ ⟨⟨st'.1, st'.2.1⟩, st'.2.2⟩ hk htk
          obtain ⟨T, t, x, ev, hT, ⟨y, hy, ry⟩, hTup⟩ := hY
          refine ⟨T, [.int (0 + (i : Int)) t, x], ev, hT, ?_, hTup⟩
          unfold enIts
          rw [getD_of hy]
          exact .cons ⟨t, by rw [Int.zero_add]⟩ (.cons ry .nil)
        · exact G.stops s Q E ⟨st.1.1, st.1.2, st.2⟩ hQ
    refine ⟨s1.heap.objs.size + 1, [s1.heap.objs.size + 1, s1.heap.objs.size], _, _, H1, rfl, I2, tu, ⟨⟨.none, ?_⟩, itIs_new hit⟩, fun c hc => ?_, q⟩
    · show IsEnum _ _ _ (0 + ((0 : Nat) : Int)) _
      exact he
    · have e' : c = s1.heap.objs.size + 1 ∨ c = s1.heap.objs.size := by simpa using hc
      have hle : s1.heap.objs.size ≤ c := by
        rcases e' with z | z
        · rw [z]; exact Nat.le_add_right _ _
        · rw [z]; exact Nat.le_refl _
      exact I1.fpOk hle (I1.hok.fresh hle)
abbrev DI_ := Env' → (List D → Prop) → EK → Prop
def Wlk (t : Option Bx) (F : Hp) (J : It) (xs : List D) : Prop := ∀ S H, Le t F S.bx S.F → Good S H → ∀ i : Nat,
  (∀ d, xs[i]? = some d → J.go i H ∧ ∀ v H2, J.yld i H v H2 → ∃ S2, Stp S H S2 H2 ∧ Good S2 H2 ∧ Rp S2.bx S2.F v d) ∧ (i = xs.length → J.stop i H)
structure DI (X : Cx) (E : XK) (tg iter : Expr) (d : DI_) : Prop where
  run : ∃ wi, PI X tg iter wi ∧ ∀ Z S H σ env R Rd Ed, Good S H → Rel Z S H σ env → XLink X.mg S H Ed E → d env Rd Ed →
    (∀ J H' S' xs, Stp S H S' H' → Good S' H' → Wlk S'.bx S'.F J xs → Rd xs → R J H') → wi σ H R
section
variable {X : Cx} {E : XK} {tg a b : Expr} {da db : DT_}
def iSeq (K : PySem.W.Frag) (tl : TE) : TI := fun σ H R => tl σ H fun x H1 => ∃ p, x = .ref p ∧ (((∃ xs, SqL K H1 p xs) ∧ R (Itl K p) H1) ∨ ((∃ xs, SqT K H1 p xs) ∧ R (Itt K p) H1))
theorem pi_seq {l : Expr} {tl : TE} (hl : PE X l tl) : PI X tg l (iSeq X.K tl) := by
  refine ⟨fun pins s σ H R I h => thn (hl.run pins s σ H _ I h) fun v s1 ⟨x, H1, I1, r1, q1⟩ => ?_⟩
  obtain ⟨p, e, q⟩ := q1
  subst e
  cases r1
  have fpk : ∀ b ∈ [s1.heap.objs.size], FpOk X pins H1 b := fun b hb => by
    have e : b = s1.heap.objs.size := by simpa using hb
    rw [e]
    exact I1.fpOk (Nat.le_refl _) (I1.hok.fresh (Nat.le_refl _))
  rcases q with ⟨⟨xs, hq⟩, q⟩ | ⟨⟨xs, hq⟩, q⟩
  · obtain ⟨us, _, pl, _⟩ := I1.list hq
    refine wpAny_pyIter_list pl.isList ⟨_, [s1.heap.objs.size], _, _, H1, rfl, ?_, turn_list p _, ⟨_, Heap.get?_push_size _ rfl, rfl, rfl⟩, fpk, q⟩
    exact I1.kept (t' := s1.toks) fun b o e => Heap.get?_push_of_some _ e
  · obtain ⟨us, _, pt, _⟩ := I1.tuple hq
    refine wpAny_pyIter_tuple (show s1.heap.IsTuple p us.toArray from pt) ⟨_, [s1.heap.objs.size], _, _, H1, rfl, ?_, turn_tuple p _, ⟨_, Heap.get?_push_size _ rfl, rfl, rfl⟩, fpk, q⟩
    exact I1.kept (t' := s1.toks) fun b o e => Heap.get?_push_of_some _ e
theorem wlk_l {K : PySem.W.Frag} {t : Option Bx} {F : Hp} {p : Addr} {vs : List V} {xs : List D} (e : F p = some (.lst vs)) (r : RpL t F vs xs) : Wlk t F (Itl K p) xs := by
  intro S H le g i
  have hp := g.fz _ _ (le.f _ _ e)
  refine ⟨fun d hd => ?_, fun hi => ⟨vs, SqL.of hp, by rw [r.length]; omega⟩⟩
  obtain ⟨v, h1, h2⟩ := r.getD hd
  refine ⟨⟨vs, v, SqL.of hp, h1⟩, fun v' H2 hy => ?_⟩
  obtain ⟨rfl, hy⟩ := hy
  have := hy vs (SqL.of hp)
  rw [h1] at this; cases this
  exact ⟨S, .refl _ _, g, h2.le le⟩
theorem wlk_t {K : PySem.W.Frag} {t : Option Bx} {F : Hp} {p : Addr} {vs : List V} {xs : List D} (e : F p = some (.tup vs)) (r : RpL t F vs xs) : Wlk t F (Itt K p) xs := by
  intro S H le g i
  have hp := g.fz _ _ (le.f _ _ e)
  refine ⟨fun d hd => ?_, fun hi => ⟨vs, SqT.of hp, by rw [r.length]; omega⟩⟩
  obtain ⟨v, h1, h2⟩ := r.getD hd
  refine ⟨⟨vs, v, SqT.of hp, h1⟩, fun v' H2 hy => ?_⟩
  obtain ⟨rfl, hy⟩ := hy
  have := hy vs (SqT.of hp)
  rw [h1] at this; cases this
  exact ⟨S, .refl _ _, g, h2.le le⟩
def dSeqI (da : DT_) : DI_ := fun env R E => da env (fun x => match x with | .tp xs => R xs | .ls xs => R xs | _ => False) E
theorem di_seq (ha : DE X E a da) : DI X E tg a (dSeqI da) := by
  obtain ⟨t, p, q⟩ := ha.run
  refine ⟨_, pi_seq p, fun Z S H σ env R Rd Ed g r l h k => ?_⟩
  refine q Z S H σ env _ _ Ed g r l h fun v H1 S1 x s1 g1 r1 h1 => ?_
  split at h1
  · cases r1 with
    | tp e rr => exact ⟨_, rfl, .inr ⟨⟨_, SqT.of (g1.fz _ _ e)⟩, k _ H1 S1 _ s1 g1 (wlk_t e rr) h1⟩⟩
  · cases r1 with
    | ls e rr => exact ⟨_, rfl, .inl ⟨⟨_, SqL.of (g1.fz _ _ e)⟩, k _ H1 S1 _ s1 g1 (wlk_l e rr) h1⟩⟩
  · exact h1.elim
theorem rgL_get {lo : Int} {n i : Nat} {d : D} (h : ((List.range n).map fun j => D.it (lo + (j : Nat)))[i]? = some d) : i < n ∧ d = .it (lo + (i : Nat)) := by
  rw [List.getElem?_map] at h
  by_cases hi : i < n
  · rw [List.getElem?_range hi] at h
    exact ⟨hi, (Option.some.inj h).symm⟩
  · rw [List.getElem?_eq_none_iff.mpr (by simpa using hi)] at h; cases h
theorem wlk_r {t : Option Bx} {F : Hp} {lo : Int} {n : Nat} : Wlk t F (Itr lo n) ((List.range n).map fun j => D.it (lo + (j : Nat))) := by
  intro S H le g i
  refine ⟨fun d hd => ?_, fun hi => by rw [List.length_map, List.length_range] at hi; show n ≤ i; omega⟩
  obtain ⟨hi, rfl⟩ := rgL_get hd
  refine ⟨hi, fun v H2 hy => ?_⟩
  obtain ⟨rfl, rfl⟩ := hy
  exact ⟨S, .refl _ _, g, .it _⟩
def rgD (lo : Int) (n : Nat) : List D := (List.range n).map fun j => D.it (lo + (j : Nat))
abbrev in62 (i : Int) : Prop := -(2 ^ 62) ≤ i ∧ i < 2 ^ 62
def dRng1 (da : DA_) : DI_ := fun env R E => da env (fun xs => match xs with | [.it j] => in62 j ∧ R (rgD 0 j.toNat) | _ => False) E
def dRng2 (da : DA_) : DI_ := fun env R E => da env (fun xs => match xs with | [.it i, .it j] => in62 i ∧ in62 j ∧ R (rgD i (j - i).toNat) | _ => False) E
theorem di_range1 {u : DA_} {p pos : Pos} (hg : Gl X "range") (hm : X.mg "range" = none) (ha : DA X E [a] u) (hs : starEach [a] X.env = [(false, eval a X.env)] := by rfl) : DI X E tg (.Call (.Name "range" p) [a] [] pos) (dRng1 u) := by
  obtain ⟨t, p, q⟩ := ha.run
  refine ⟨_, pi_range1 hg hm p hs, fun Z S H σ env R Rd Ed g r l h k => ?_⟩
  refine q Z S H σ env _ _ Ed g r l h fun vs H1 S1 xs s1 g1 r1 h1 => ?_
  split at h1
  · cases r1 with
    | cons r1 r2 =>
      cases r2; cases r1
      exact ⟨_, rfl, h1.1.1, h1.1.2, k _ H1 S1 _ s1 g1 wlk_r h1.2⟩
  · exact h1.elim
def enD (xs : List D) : List D := (List.range xs.length).map fun i => D.tp [.it (i : Nat), xs.getD i .non]
theorem enD_get {xs : List D} {i : Nat} {d : D} (h : (enD xs)[i]? = some d) : ∃ x, xs[i]? = some x ∧ d = .tp [.it (i : Nat), x] := by
  unfold enD at h
  rw [List.getElem?_map] at h
  by_cases hi : i < xs.length
  · rw [List.getElem?_range hi] at h
    refine ⟨xs[i], List.getElem?_eq_getElem hi, ?_⟩
    have := (Option.some.inj h).symm
    rw [this]
    show D.tp [.it (i : Nat), xs.getD i .non] = _
    rw [List.getD_eq_getElem?_getD, List.getElem?_eq_getElem hi]; rfl
  · rw [List.getElem?_eq_none_iff.mpr (by simpa using hi)] at h; cases h
theorem wlk_e {t : Option Bx} {F : Hp} {src : Hp → Prop} {vs : List V} {xs : List D} (r : RpL t F vs xs) (hs : ∀ S H, Le t F S.bx S.F → Good S H → src H) : Wlk t F (Itg src vs.length (enIts vs)) (enD xs) := by
  intro S H le g i
  refine ⟨fun d hd => ?_, fun hi => ⟨by rw [hi, r.length]; unfold enD; rw [List.length_map, List.length_range], hs S H le g⟩⟩
  obtain ⟨x, hx, rfl⟩ := enD_get hd
  obtain ⟨v, h1, h2⟩ := r.getD hx
  refine ⟨⟨(List.getElem?_eq_some_iff.mp h1).1, hs S H le g⟩, fun v' H2 hy => ?_⟩
  obtain ⟨T, rfl, hT, rfl⟩ := hy
  obtain ⟨st, g2⟩ := step_new g (o := .tup (enIts vs i)) hT
  refine ⟨_, st, g2, .tp (by show upd S.F T _ T = _; exact upd_same) ?_⟩
  have q : RpL S.bx (upd S.F T (.tup (enIts vs i))) [V.int (i : Nat), v] [D.it (i : Nat), x] := .cons (.it _) (.cons ((h2.le le).le st.le) .nil)
  have e : enIts vs i = [V.int (i : Nat), v] := by unfold enIts; rw [getD_of h1]
  have q' : RpL S.bx (upd S.F T (.tup (enIts vs i))) (enIts vs i) [D.it (i : Nat), x] := Eq.mpr (congrArg (fun z => RpL S.bx (upd S.F T (.tup (enIts vs i))) z [D.it (i : Nat), x]) e) q
  exact q'
def dEnum (u : DA_) : DI_ := fun env R E => u env (fun ys => match ys with | [.tp xs] => R (enD xs) | [.ls xs] => R (enD xs) | _ => False) E
theorem di_enum {u : DA_} {p pos tpos : Pos} {elts : List Expr} {kk : Nat} (hg : Gl X "enumerate") (hm : X.mg "enumerate" = none) (ha : DA X E [a] u) (hs : starEach [a] X.env = [(false, eval a X.env)] := by rfl) :
    DI X E (.Tuple elts kk tpos) (.Call (.Name "enumerate" p) [a] [] pos) (dEnum u) := by
  obtain ⟨t, p, q⟩ := ha.run
  refine ⟨_, pi_enumB hg hm p hs, fun Z S H σ env R Rd Ed g r l h k => ?_⟩
  refine q Z S H σ env _ _ Ed g r l h fun vs H1 S1 xs s1 g1 r1 h1 => ?_
  split at h1
  · cases r1 with
    | cons r1 r2 =>
      cases r2
      cases r1 with
      | tp e rr => exact ⟨_, _, false, rfl, SqT.of (g1.fz _ _ e), k _ H1 S1 _ s1 g1 (wlk_e rr fun S H le g => SqT.of (g.fz _ _ (le.f _ _ e))) h1⟩
  · cases r1 with
    | cons r1 r2 =>
      cases r2
      cases r1 with
      | ls e rr => exact ⟨_, _, true, rfl, SqL.of (g1.fz _ _ e), k _ H1 S1 _ s1 g1 (wlk_e rr fun S H le g => SqL.of (g.fz _ _ (le.f _ _ e))) h1⟩
  · exact h1.elim
def zpD : List D → List D → List D
  | x :: xs, y :: ys => .tp [x, y] :: zpD xs ys
  | _, _ => []
def sqD : D → Option (Bool × List D) | .tp xs => some (false, xs) | .ls xs => some (true, xs) | _ => none
def dZip (u : DA_) : DI_ := fun env R E => u env (fun zs => match zs with | [x, y] => (match sqD x, sqD y with | some (_, xs), some (_, ys) => R (zpD xs ys) | _, _ => False) | _ => False) E
end
def forD (dg : DG_) (db : DS_) (De : DEnds) : List D → Env' → Prop
  | [] => De.nx
  | x :: xs => fun env => dg x env fun env1 => db { De with nx := forD dg db De xs, ct := forD dg db De xs, bk := De.nx } env1
def dFor (di : DI_) (dg : DG_) (db : DS_) : DS_ := fun D env => di env (fun xs => forD dg db D xs env) D.ex
theorem ds_for {X : Cx} {E : XK} {tg iter : Expr} {body : List Stmt} {pos : Pos} {di : DI_} {dg : DG_} {vs : List Nat} {db : DS_} (hp : PassesOwn (model X.prog X.w) X.A X.env X.xe) (hc : X.calm = true) (hi : DI X E tg iter di) (hg : DG X tg vs dg) (hb : DSs X E body db)
    (hs : ∀ x, foldedSetIterable iter X.env x = pure x := by intro _; rfl) : DS X E (.For tg iter body [] pos) (dFor di dg db) := by
  obtain ⟨wi, pi, qi⟩ := hi.run
  obtain ⟨g, pg, qg⟩ := hg.run
  obtain ⟨t, pb, qb⟩ := hb.run
  refine ⟨_, ps_for hp hc pi pg pb hs, fun B De Dn l S σ env H a r h => ?_⟩
  refine qi _ S H σ env _ _ _ a.g r (l.xl a) h fun J H1 S1 xs s1 g1 w1 h1 => ?_
  have a1 := a.step s1 g1
  refine ⟨fun i m σ H => m = xs.length - i ∧ i ≤ xs.length ∧ ∃ S env, At (B.now S1) S H ∧ Rel B.H0 S H σ env ∧ forD dg db De (xs.drop i) env, ⟨_, rfl, Nat.zero_le _, S1, env, a1.now, r.step s1, h1⟩, ?_⟩
  rintro i m σ H ⟨rfl, hle, S, env, a2, r2, h2⟩
  have w := w1 S H a2.f a2.g i
  by_cases hlt : i < xs.length
  · have ed : xs.drop i = xs[i] :: xs.drop (i + 1) := List.drop_eq_getElem_cons hlt
    rw [ed] at h2
    obtain ⟨go, yl⟩ := w.1 xs[i] (List.getElem?_eq_getElem hlt)
    obtain ⟨N, hN⟩ : ∃ N : L2.St → Hp → Prop, N = fun σ' H' => ∃ S env, At (B.now S1) S H' ∧ Rel B.H0 S H' σ' env ∧ forD dg db De (xs.drop (i + 1)) env := ⟨_, rfl⟩
    refine .inr ⟨go, N, fun σ' H' q => ⟨xs.length - (i + 1), by omega, rfl, hlt, by rw [hN] at q; exact q⟩, fun x H' hy => ?_⟩
    obtain ⟨S2, st, g2, rp⟩ := yl x H' hy
    refine qg _ S2 H' σ env x _ _ _ (r2.step st) g2 rp h2 fun σ2 env2 r3 h3 _ => ?_
    refine qb (B.now S1) { De with nx := forD dg db De (xs.drop (i + 1)), ct := forD dg db De (xs.drop (i + 1)), bk := De.nx } { Dn with nx := N, ct := N, bk := Dn.nx } ⟨fun S σ env H a r h => ?_, fun S σ env H a r h => l.nx S σ env H (a1.was a) r h, fun S σ env H a r h => ?_, fun S v d H a r h => l.rt S v d H (a1.was a) r h, l.ex⟩ S2 σ2 env2 H' (a2.step st g2) r3 h3
    · show N σ H
      rw [hN]; exact ⟨S, env, a, r, h⟩
    · show N σ H
      rw [hN]; exact ⟨S, env, a, r, h⟩
  · have e : i = xs.length := by omega
    subst e
    rw [List.drop_length] at h2
    exact .inl ⟨w.2 rfl, l.nx S σ env H (a1.was a2) r2 h2⟩
theorem xl0 {mg : Str → Option Value} {S : Sta} {H : Hp} : XLink mg S H (fun _ => False) E0 := fun _ _ _ _ _ _ _ _ h => h.elim
def NSem (mg : Str → Option Value) (E : XK) (t : TE) (d : DN_) : Prop := ∀ Z S H σ env Q (Qd : List D → Prop) Ed, Good S H → Rel Z S H σ env → XLink mg S H Ed E → d env Qd Ed →
    (∀ p H' S' vs xs, Stp S H S' H' → Good S' H' → H p = none → H' p = some (.lst vs) → S'.F p = none → ¬ InB S'.bx p → RpL S'.bx S'.F vs xs → Qd xs → Q (.ref p) H') → t σ H Q
def wipeD (env : Env') : List Nat → Env'
  | [] => env
  | v :: vs => (wipeD env vs).set v .no
theorem rel_wipe {Z : Hp} {S : Sta} {H : Hp} {σ : L2.St} {env : Env'} (r : Rel Z S H σ env) : ∀ vs : List Nat, Rel Z S H (wipe σ vs) (wipeD env vs)
  | [] => r
  | v :: vs => (rel_wipe r vs).drop_ v none
structure DTs (X : Cx) (E : XK) (ifs : List Expr) (d : DB_) : Prop where
  run : ∃ t, PTs X ifs t ∧ ∀ Z S H σ env Q Qd Ed, Good S H → Rel Z S H σ env → XLink X.mg S H Ed E → d env Qd Ed → ContB S H Qd Q → t σ H Q
def dYes : DB_ := fun _ Q _ => Q true
theorem dts_nil {X : Cx} {E : XK} : DTs X E [] dYes := ⟨_, pts_nil, fun _ S H _ _ _ _ _ g _ _ h k => k true H S (.refl S H) g h⟩
theorem dts_one {X : Cx} {E : XK} {c : Expr} {d : DB_} (h : DB X E c d) : DTs X E [c] d := let ⟨t, p, q⟩ := h.run; ⟨t, pts_one p, q⟩
def lcD (dg : DG_) (tt : DB_) (te : DT_) (env : Env') (E : EK) (Q : List D → Prop) : List D → List D → Prop
  | [], acc => Q acc
  | x :: xs, acc => dg x env fun env1 => tt env1 (fun b => match b with | true => te env1 (fun y => acc.length < sizeLine ∧ lcD dg tt te env E Q xs (acc ++ [y])) E | false => lcD dg tt te env E Q xs acc) E
def dLc (di : DI_) (dg : DG_) (tt : DB_) (te : DT_) (vs : List Nat) : DN_ := fun env Q E => di env (fun xs => lcD dg tt te (wipeD env vs) (fun _ => False) Q xs []) E
section
variable {X : Cx} {E : XK} {elt tg iter : Expr} {ifs : List Expr} {scope : Scope} {own : List (Str × Nat)} {pos : Pos} {vsg : List Nat} {di : DI_} {dg : DG_} {tt : DB_} {te : DT_}
abbrev BCx (X : Cx) (scope : Scope) (s : Shared) (H : Hp) (C : Addr) (cl : List (Str × Addr)) (fp : List Addr) : Cx := X.blk s H scope (compEnvC scope cl C X.env) fp
theorem allE (he : ∀ s H C cl fp, DE (BCx X scope s H C cl fp) E0 elt te) : ∃ t, (∀ s H C cl fp, PE (BCx X scope s H C cl fp) elt t) ∧
    ∀ Z S H σ env Q Qd Ed, Good S H → Rel Z S H σ env → XLink X.mg S H Ed E0 → te env Qd Ed → Cont S H Qd Q → t σ H Q := by
  have ch := fun s H C cl fp => (he s H C cl fp).run
  refine ⟨fun σ H Q => ∀ s H0 C cl fp, (ch s H0 C cl fp).choose σ H Q, fun s H0 C cl fp => ⟨fun pins s1 σ H Q I h => ?_⟩, fun Z S H σ env Q Qd Ed g r l h k s H0 C cl fp => ?_⟩
  · exact (ch s H0 C cl fp).choose_spec.1.run pins s1 σ H Q I (h s H0 C cl fp)
  · exact (ch s H0 C cl fp).choose_spec.2 Z S H σ env Q Qd Ed g r l h k
theorem allT (he : ∀ s H C cl fp, DTs (BCx X scope s H C cl fp) E0 ifs tt) : ∃ t, (∀ s H C cl fp, PTs (BCx X scope s H C cl fp) ifs t) ∧
    ∀ Z S H σ env Q Qd Ed, Good S H → Rel Z S H σ env → XLink X.mg S H Ed E0 → tt env Qd Ed → ContB S H Qd Q → t σ H Q := by
  have ch := fun s H C cl fp => (he s H C cl fp).run
  refine ⟨fun σ H Q => ∀ s H0 C cl fp, (ch s H0 C cl fp).choose σ H Q, fun s H0 C cl fp => ⟨fun pins s1 σ H Q I h => ?_⟩, fun Z S H σ env Q Qd Ed g r l h k s H0 C cl fp => ?_⟩
  · exact (ch s H0 C cl fp).choose_spec.1.run pins s1 σ H Q I (h s H0 C cl fp)
  · exact (ch s H0 C cl fp).choose_spec.2 Z S H σ env Q Qd Ed g r l h k
theorem allG (he : ∀ s H C cl fp, DG (BCx X scope s H C cl fp) tg vsg dg) : ∃ t, (∀ s H C cl fp, PG (BCx X scope s H C cl fp) tg t) ∧
    ∀ Z S H σ env x dx Q Qd, Rel Z S H σ env → Good S H → Rp S.bx S.F x dx → dg dx env Qd → (∀ σ2 env2, Rel Z S H σ2 env2 → Qd env2 → (∀ ws : List Nat, (∀ i ∈ vsg, i ∈ ws) → wipe σ2 ws = wipe σ ws) → Q σ2 H) → t x σ H Q := by
  have ch := fun s H C cl fp => (he s H C cl fp).run
  refine ⟨fun x σ H Q => ∀ s H0 C cl fp, (ch s H0 C cl fp).choose x σ H Q, fun s H0 C cl fp => ⟨fun pins s1 σ H v u Q I rv h => ?_⟩, fun Z S H σ env x dx Q Qd r g rp h k s H0 C cl fp => ?_⟩
  · exact (ch s H0 C cl fp).choose_spec.1.run pins s1 σ H v u Q I rv (h s H0 C cl fp)
  · exact (ch s H0 C cl fp).choose_spec.2 Z S H σ env x dx Q Qd r g rp h k
theorem wipe_idem : ∀ (σ : L2.St) (vs : List Nat), wipe (wipe σ vs) vs = wipe σ vs := by
  intro σ vs
  have key : ∀ (ws us : List Nat) (τ : L2.St), (∀ v ∈ us, v ∈ ws) → wipe (wipe τ us) ws = wipe τ ws := by
    intro ws us
    induction us with
    | nil => intro τ _; rfl
    | cons u r ih =>
      intro τ h
      show wipe ((wipe τ r).set u none) ws = _
      rw [wipe_set (h u List.mem_cons_self)]
      exact ih τ fun v hv => h v (List.mem_cons_of_mem _ hv)
  exact key vs vs σ fun v h => h
theorem lc_at {wi : TI} {g : TG} {t1 : TT} {t2 : TE} {vs : List Nat} (hv : ∀ i ∈ vsg, i ∈ vs) {Z : Hp} {S : Sta} {H : Hp} {σ : L2.St} {env : Env'} {Q : VK} {Qd : List D → Prop} (gd : Good S H) (r : Rel Z S H σ env)
    (si : ∀ R : It → Hp → Prop, (∀ J H' S' xs, Stp S H S' H' → Good S' H' → Wlk S'.bx S'.F J xs → lcD dg tt te (wipeD env vs) (fun _ => False) Qd xs [] → R J H') → wi σ H R)
    (sg : ∀ Z S H σ env x dx Q Qd, Rel Z S H σ env → Good S H → Rp S.bx S.F x dx → dg dx env Qd → (∀ σ2 env2, Rel Z S H σ2 env2 → Qd env2 → (∀ ws : List Nat, (∀ i ∈ vsg, i ∈ ws) → wipe σ2 ws = wipe σ ws) → Q σ2 H) → g x σ H Q)
    (s1 : ∀ Z S H σ env Q Qd Ed, Good S H → Rel Z S H σ env → XLink X.mg S H Ed E0 → tt env Qd Ed → ContB S H Qd Q → t1 σ H Q)
    (s2 : ∀ Z S H σ env Q Qd Ed, Good S H → Rel Z S H σ env → XLink X.mg S H Ed E0 → te env Qd Ed → Cont S H Qd Q → t2 σ H Q)
    (k : ∀ p H' S' vs xs, Stp S H S' H' → Good S' H' → H p = none → H' p = some (.lst vs) → S'.F p = none → ¬ InB S'.bx p → RpL S'.bx S'.F vs xs → Qd xs → Q (.ref p) H') : tLc wi g t1 t2 vs σ H Q := by
  refine si _ fun J H1 S1 xs st1 g1 w1 h1 => ?_
  intro p hp
  obtain ⟨q1, q2⟩ := step_own g1 (o := HO.lst []) hp
  have nb1 : ¬ InB S1.bx p := fun z => by obtain ⟨o, e⟩ := g1.box z; rw [hp] at e; cases e
  have nf1 : S1.F p = none := none_of_keep fun o e => by have := g1.fz _ _ e; rw [hp] at this; cases this
  have ap : ∀ {S' : Sta} {H' : Hp} {o : HO}, Good S' H' → Stp S1 H1 S' H' → (∀ f, H' p ≠ some (.ext f)) → S'.F p = none → ¬ InB S'.bx p → Good S' (upd H' p o) ∧ Stp S1 H1 S' (upd H' p o) := fun {S' H' o} g st hx hf hb =>
    ⟨good_mut g hx hf hb, st.ext, st.new, st.box, fun b u e hb' => by rw [upd_ne (ne_of_none e hp)]; exact st.keep b u e hb'⟩
  refine ⟨fun i m H => m = xs.length - i ∧ i ≤ xs.length ∧ ∃ S' vs' acc, Good S' H ∧ Stp S1 H1 S' H ∧ H p = some (.lst vs') ∧ S'.F p = none ∧ ¬ InB S'.bx p ∧ RpL S'.bx S'.F vs' acc ∧ lcD dg tt te (wipeD env vs) (fun _ => False) Qd (xs.drop i) acc,
    ⟨_, rfl, Nat.zero_le _, S1, [], [], q2, q1, upd_same, nf1, nb1, .nil, h1⟩, ?_⟩
  rintro i m H2 ⟨rfl, hle, S2, vs2, acc, g2, st2, hp2, nf2, nb2, r2, h2⟩
  have w := w1 S2 H2 st2.le g2 i
  by_cases hlt : i < xs.length
  · have ed : xs.drop i = xs[i] :: xs.drop (i + 1) := List.drop_eq_getElem_cons hlt
    rw [ed] at h2
    obtain ⟨go, yl⟩ := w.1 xs[i] (List.getElem?_eq_getElem hlt)
    obtain ⟨Nx, hN⟩ : ∃ Nx : Hp → Prop, Nx = fun H => ∃ S' vs' acc, Good S' H ∧ Stp S1 H1 S' H ∧ H p = some (.lst vs') ∧ S'.F p = none ∧ ¬ InB S'.bx p ∧ RpL S'.bx S'.F vs' acc ∧ lcD dg tt te (wipeD env vs) (fun _ => False) Qd (xs.drop (i + 1)) acc := ⟨_, rfl⟩
    refine .inr ⟨go, Nx, fun H' q => ⟨xs.length - (i + 1), by omega, rfl, hlt, by rw [hN] at q; exact q⟩, fun x H3 hy => ?_⟩
    obtain ⟨S3, st3, g3, rp⟩ := yl x H3 hy
    have through : ∀ {S4 : Sta} {H4 : Hp}, Stp S2 H2 S4 H4 → Good S4 H4 → H4 p = some (.lst vs2) ∧ S4.F p = none ∧ ¬ InB S4.bx p := fun {S4 H4} st g => by
      refine ⟨st.keep _ _ hp2 nb2, none_of_keep fun o e => ?_, fun z => ?_⟩
      · rcases st.new _ _ e with z | z
        · rw [nf2] at z; cases z
        · rw [hp2] at z; cases z
      · rcases st.inB z with z | z
        · exact nb2 z
        · rw [hp2] at z; cases z
    have rw0 : Rel Z S3 H3 (wipe σ vs) (wipeD env vs) := rel_wipe ((r.step (st1.trans g1 st2)).step st3) vs
    refine sg Z S3 H3 _ _ x _ _ _ rw0 g3 rp h2 fun σ2 env2 r4 h4 hw => ⟨(hw vs hv).trans (wipe_idem σ vs), ?_⟩
    refine s1 Z S3 H3 σ2 env2 _ _ _ g3 r4 xl0 h4 fun b H5 S5 st5 g5 h5 => ?_
    cases b with
    | false =>
      rw [if_neg Bool.false_ne_true, hN]
      have st25 := st3.trans g3 st5
      obtain ⟨e1, e2, e3⟩ := through st25 g5
      exact ⟨S5, vs2, acc, g5, st2.trans g2 st25, e1, e2, e3, r2.le st25.le, h5⟩
    | true =>
      rw [if_pos rfl]
      refine s2 Z S5 H5 σ2 env2 _ _ _ g5 (r4.step st5) xl0 h5 fun y H6 S6 dy st6 g6 ry h6 => ?_
      have st26 := (st3.trans g3 st5).trans g5 st6
      obtain ⟨e1, e2, e3⟩ := through st26 g6
      refine ⟨vs2, e1, by rw [r2.length]; exact h6.1, ?_⟩
      rw [hN]
      obtain ⟨g7, st7⟩ := ap (o := .lst (vs2 ++ [y])) g6 (st2.trans g2 st26) (nx_lst e1) e2 e3
      exact ⟨S6, vs2 ++ [y], acc ++ [dy], g7, st7, upd_same, e2, e3, (r2.le st26.le).app (.one ry), h6.2⟩
  · have e : i = xs.length := by omega
    subst e
    rw [List.drop_length] at h2
    refine .inl ⟨w.2 rfl, k p H2 S2 vs2 acc (st1.trans g1 st2) g2 (st1.free g1 hp) hp2 nf2 nb2 r2 h2⟩
theorem lc_sem {wi : TI} {g : TG} {t1 : TT} {t2 : TE} {vs : List Nat} (hv : ∀ i ∈ vsg, i ∈ vs)
    (si : ∀ Z S H σ env R Rd Ed, Good S H → Rel Z S H σ env → XLink X.mg S H Ed E → di env Rd Ed → (∀ J H' S' xs, Stp S H S' H' → Good S' H' → Wlk S'.bx S'.F J xs → Rd xs → R J H') → wi σ H R)
    (sg : ∀ Z S H σ env x dx Q Qd, Rel Z S H σ env → Good S H → Rp S.bx S.F x dx → dg dx env Qd → (∀ σ2 env2, Rel Z S H σ2 env2 → Qd env2 → (∀ ws : List Nat, (∀ i ∈ vsg, i ∈ ws) → wipe σ2 ws = wipe σ ws) → Q σ2 H) → g x σ H Q)
    (s1 : ∀ Z S H σ env Q Qd Ed, Good S H → Rel Z S H σ env → XLink X.mg S H Ed E0 → tt env Qd Ed → ContB S H Qd Q → t1 σ H Q)
    (s2 : ∀ Z S H σ env Q Qd Ed, Good S H → Rel Z S H σ env → XLink X.mg S H Ed E0 → te env Qd Ed → Cont S H Qd Q → t2 σ H Q) : NSem X.mg E (tLc wi g t1 t2 vs) (dLc di dg tt te vs) :=
  fun Z S H σ env Q Qd Ed gd r l h k => lc_at (X := X) hv gd r (fun R hR => si Z S H σ env R _ Ed gd r l h hR) sg s1 s2 k
theorem dn_lc (hc : X.calm = true) (hN : X.N.Nodup) (hi : DI X E tg iter di) (ok : BlkOk X.N X.env.scope scope own) (hv : ∀ i ∈ vsg, i ∈ own.map (·.2)) (hg : ∀ s H C cl fp, DG (BCx X scope s H C cl fp) tg vsg dg)
    (ht : ∀ s H C cl fp, DTs (BCx X scope s H C cl fp) E0 ifs tt) (he : ∀ s H C cl fp, DE (BCx X scope s H C cl fp) E0 elt te) (hs : ∀ x, foldedSetIterable iter X.env x = pure x := by intro _; rfl) :
    DN X E (.ListComp elt [⟨tg, iter, ifs, 0⟩] scope pos) (dLc di dg tt te (own.map (·.2))) := by
  obtain ⟨wi, pi, si⟩ := hi.run
  obtain ⟨g, pg, sg⟩ := allG hg
  obtain ⟨t1, p1, s1⟩ := allT ht
  obtain ⟨t2, p2, s2⟩ := allE he
  exact ⟨_, pe_lc hc hN pi ok pg p1 p2 hs, lc_sem hv si sg s1 s2⟩
def dSetN (i : Nat) (d : DN_) : DS_ := fun De env => d env (fun xs => De.nx (env.set i (.v (.ls xs)))) De.ex
def dSetO (i : Nat) (d : DN_) : DS_ := fun De env => d env (fun xs => De.nx (env.set i (.own xs))) De.ex
theorem set_frz {t : TE} {d : DN_} (s : NSem X.mg E t d) (i : Nat) {B : Base} {De : DEnds} {Dn : Ends} (l : Lnk X.mg E B De Dn) {S : Sta} {σ : L2.St} {env : Env'} {H : Hp} (a : At B S H) (r : Rel B.H0 S H σ env) (h : dSetN i d De env) :
    tAsg t (gName i) Dn σ H := by
  refine s _ S H σ env _ _ _ a.g r (l.xl a) h fun p H' S' vs xs s' g' h0 h1 h2 h3 r' h' => ?_
  have le : Le S'.bx S'.F S'.bx (upd S'.F p (.lst vs)) := ⟨fun b o e => by
    have : b ≠ p := fun z => by rw [z, h2] at e; cases e
    rw [upd_ne this]; exact e, fun x e => e⟩
  have st : Stp S H ⟨S'.bx, upd S'.F p (.lst vs)⟩ H' := ⟨fun b o e => le.f b o (s'.ext b o e), fun b o e => by
    by_cases z : b = p
    · rw [z]; exact .inr h0
    · have e' : upd S'.F p (.lst vs) b = some o := e
      rw [upd_ne z] at e'
      exact s'.new b o e', s'.box, s'.keep⟩
  have g2 := good_frz g' h1 h3
  exact l.nx _ _ _ H' (a.step st g2) ((r.step st).put (.ls (by show upd S'.F p (.lst vs) p = _; exact upd_same) (r'.le le))) h'
theorem set_own {t : TE} {d : DN_} (s : NSem X.mg E t d) (i : Nat) {B : Base} {De : DEnds} {Dn : Ends} (l : Lnk X.mg E B De Dn) {S : Sta} {σ : L2.St} {env : Env'} {H : Hp} (a : At B S H) (r : Rel B.H0 S H σ env) (h : dSetO i d De env) :
    tAsg t (gName i) Dn σ H := by
  refine s _ S H σ env _ _ _ a.g r (l.xl a) h fun p H' S' vs xs s' g' h0 h1 h2 h3 r' h' => ?_
  refine l.nx _ _ _ H' (a.step s' g') ((r.step s').putOwn (a.p.free a.g h0) h1 h2 h3 (fun j ys ej ez => ?_) r') h'
  obtain ⟨b, ws, q1, q2, _⟩ := r.at_ j _ ej
  rw [ez] at q1; cases q1
  rw [h0] at q2; cases q2
theorem DN.sem {e : Expr} {d : DN_} (h : DN X E e d) : ∃ t, PE X e t ∧ NSem X.mg E t d := h.run
theorem ds_setN (i : Nat) {x : Str} {p' : Pos} {e : Expr} {d : DN_} (he : DN X E e d) (hN : X.N.Nodup) (hi : X.N[i]? = some x := by rfl) (hx : Loc X.env.scope x := by first | exact Or.inl rfl | exact Or.inr rfl) (hs : swapsWith e (some (.Name x p')) pos.line X.env = pure false := by rfl)
    (hf : X.fn x = true ∨ X.env.scope.names.lookup x = some .local := by first | exact .inl rfl | exact .inr rfl | assumption) : DS X E (.Assign [.Name x p'] e pos) (dSetN i d) := by
  obtain ⟨t, p, q⟩ := he.sem
  exact ⟨_, ps_set hN hi hx p hs hf, fun B De Dn l S σ env H a r h => set_frz q i l a r h⟩
theorem ds_setO (i : Nat) {x : Str} {p' : Pos} {e : Expr} {d : DN_} (he : DN X E e d) (hN : X.N.Nodup) (hi : X.N[i]? = some x := by rfl) (hx : Loc X.env.scope x := by first | exact Or.inl rfl | exact Or.inr rfl) (hs : swapsWith e (some (.Name x p')) pos.line X.env = pure false := by rfl)
    (hf : X.fn x = true ∨ X.env.scope.names.lookup x = some .local := by first | exact .inl rfl | exact .inr rfl | assumption) : DS X E (.Assign [.Name x p'] e pos) (dSetO i d) := by
  obtain ⟨t, p, q⟩ := he.sem
  exact ⟨_, ps_set hN hi hx p hs hf, fun B De Dn l S σ env H a r h => set_own q i l a r h⟩
theorem ds_setLcN (i : Nat) {y : Str} {py spos : Pos} (hc : X.calm = true) (hN : X.N.Nodup) (hi : DI X E tg iter di) (ok : BlkOk X.N X.env.scope scope own) (hv : ∀ i ∈ vsg, i ∈ own.map (·.2)) (hg : ∀ s H C cl fp, DG (BCx X scope s H C cl fp) tg vsg dg)
    (ht : ∀ s H C cl fp, DTs (BCx X scope s H C cl fp) E0 ifs tt) (he : ∀ s H C cl fp, DE (BCx X scope s H C cl fp) E0 elt te)
    (hsw : swapsWith (.ListComp elt [⟨tg, iter, ifs, 0⟩] scope pos) (some (.Name y py)) spos.line X.env = pure true) (hy : X.N[i]? = some y := by rfl) (hyl : X.env.scope.names.lookup y = some .local := by rfl) (hs : ∀ x, foldedSetIterable iter X.env x = pure x := by intro _; rfl) :
    DS X E (.Assign [.Name y py] (.ListComp elt [⟨tg, iter, ifs, 0⟩] scope pos) spos) (dSetN i (dLc di dg tt te (own.map (·.2)))) := by
  obtain ⟨wi, pi, si⟩ := hi.run
  obtain ⟨g, pg, sg⟩ := allG hg
  obtain ⟨t1, p1, s1⟩ := allT ht
  obtain ⟨t2, p2, s2⟩ := allE he
  exact ⟨_, ps_setLc hc hN hy hyl hsw pi ok pg p1 p2 hs, fun B De Dn l S σ env H a r h => set_frz (lc_sem hv si sg s1 s2) i l a r h⟩
theorem ds_setLcO (i : Nat) {y : Str} {py spos : Pos} (hc : X.calm = true) (hN : X.N.Nodup) (hi : DI X E tg iter di) (ok : BlkOk X.N X.env.scope scope own) (hv : ∀ i ∈ vsg, i ∈ own.map (·.2)) (hg : ∀ s H C cl fp, DG (BCx X scope s H C cl fp) tg vsg dg)
    (ht : ∀ s H C cl fp, DTs (BCx X scope s H C cl fp) E0 ifs tt) (he : ∀ s H C cl fp, DE (BCx X scope s H C cl fp) E0 elt te)
    (hsw : swapsWith (.ListComp elt [⟨tg, iter, ifs, 0⟩] scope pos) (some (.Name y py)) spos.line X.env = pure true) (hy : X.N[i]? = some y := by rfl) (hyl : X.env.scope.names.lookup y = some .local := by rfl) (hs : ∀ x, foldedSetIterable iter X.env x = pure x := by intro _; rfl) :
    DS X E (.Assign [.Name y py] (.ListComp elt [⟨tg, iter, ifs, 0⟩] scope pos) spos) (dSetO i (dLc di dg tt te (own.map (·.2)))) := by
  obtain ⟨wi, pi, si⟩ := hi.run
  obtain ⟨g, pg, sg⟩ := allG hg
  obtain ⟨t1, p1, s1⟩ := allT ht
  obtain ⟨t2, p2, s2⟩ := allE he
  exact ⟨_, ps_setLc hc hN hy hyl hsw pi ok pg p1 p2 hs, fun B De Dn l S σ env H a r h => set_own (lc_sem hv si sg s1 s2) i l a r h⟩
def dLstN (u : DA_) : DN_ := fun env Q E => u env (fun xs => szOk xs.length ∧ Q xs) E
theorem own_new {S S1 : Sta} {H H1 : Hp} (s1 : Stp S H S1 H1) (g1 : Good S1 H1) {p : Addr} {vs : List V} (hp : H1 p = none) :
    Stp S H S1 (upd H1 p (.lst vs)) ∧ Good S1 (upd H1 p (.lst vs)) ∧ H p = none ∧ S1.F p = none ∧ ¬ InB S1.bx p := by
  obtain ⟨a, b⟩ := step_own g1 (o := HO.lst vs) hp
  refine ⟨s1.trans g1 a, b, s1.free g1 hp, none_of_keep fun o e => (by have := g1.fz _ _ e; rw [hp] at this; cases this), fun z => (by obtain ⟨o, e⟩ := g1.box z; rw [hp] at e; cases e)⟩
theorem dn_lst {es : List Expr} {u : DA_} (h : DA X E es u) : DN X E (.List es pos) (dLstN u) := by
  obtain ⟨t, p, q⟩ := h.run
  refine ⟨_, pe_lst p, fun Z S H σ env Q Qd Ed g r l h k => ?_⟩
  refine q Z S H σ env _ _ Ed g r l h fun vs H1 S1 xs s1 g1 r1 h1 => ⟨by rw [r1.length]; exact h1.1, fun p hp => ?_⟩
  obtain ⟨a1, a2, a3, a4, a5⟩ := own_new (vs := vs) s1 g1 hp
  exact k p _ S1 vs xs a1 a2 a3 upd_same a4 a5 r1 h1.2
def dCatN (da db : DT_) : DN_ := fun env Q E => da env (fun x => db env (fun y => match x, y with | .ls xs, .ls ys => szOk (xs.length + ys.length) ∧ Q (xs ++ ys) | _, _ => False) E) E
theorem dn_cat {a b : Expr} {da db : DT_} (ha : DE X E a da) (hb : DE X E b db) : DN X E (.BinOp a .Add b pos) (dCatN da db) := by
  obtain ⟨ta, pa, ra⟩ := ha.run
  obtain ⟨tb, pb, rb⟩ := hb.run
  refine ⟨_, pe_op op_cat pa pb, fun Z S H σ env Q Qd Ed g r l h k => ?_⟩
  refine ra Z S H σ env _ _ Ed g r l h fun x H1 S1 dx s1 g1 r1 h1 => ?_
  refine rb Z S1 H1 σ env _ _ Ed g1 (r.step s1) (l.step s1 g1) h1 fun y H2 S2 dy s2 g2 r2 h2 => ?_
  have r1 := r1.le s2.le
  split at h2
  · cases r1 with
    | ls e1 q1 =>
      cases r2 with
      | ls e2 q2 =>
        refine ⟨_, _, _, _, rfl, rfl, g2.fz _ _ e1, g2.fz _ _ e2, by rw [q1.length, q2.length]; exact h2.1, fun p hp => ?_⟩
        obtain ⟨a1, a2, a3, a4, a5⟩ := own_new (s1.trans g1 s2) g2 hp
        exact k p _ S2 _ _ a1 a2 a3 upd_same a4 a5 (q1.app q2) h2.2
  · exact h2.elim
def dRepN (da db : DT_) : DN_ := fun env Q E => da env (fun x => db env (fun y => match x, y with | .ls xs, .it n => -(2 ^ 63) ≤ n ∧ n < 2 ^ 63 ∧ szOk (xs.length * n.toNat) ∧ Q (List.replicate n.toNat xs).flatten | _, _ => False) E) E
def dListN (u : DA_) : DN_ := fun env Q E => u env (fun xs => match xs with | [.tp ys] => Q ys | [.ls ys] => Q ys | _ => False) E
def dApp (i : Nat) (de : DT_) : DS_ := fun De env => match env[i]? with | some (.own xs) => de env (fun y => xs.length < sizeLine ∧ De.nx (env.set i (.own (xs ++ [y])))) De.ex | _ => False
theorem ds_append (i : Nat) {x : Str} {e : Expr} {de : DT_} {p1 p2 p3 : Pos} (he : DE X E e de) (hN : X.N[i]? = some x := by rfl) (hv : Vis X.env.scope x := by first | exact Or.inl rfl | exact Or.inr (Or.inl rfl) | exact Or.inr (Or.inr rfl)) (hd : (x == ("__debug__" : Str)) = false := by decide)
    (hcd : (x == ("__classdict__" : Str)) = false := by decide) (hb : attributeBase (.Name x p1) "append" X.env (eval (.Name x p1) X.env) = eval (.Name x p1) X.env := by rfl)
    (hs : starEach [e] X.env = (false, eval e X.env) :: starEach [] X.env := by rfl) (hsw : swapsWith (.Call (.Attribute (.Name x p1) "append" p2) [e] [] p3) none pos.line X.env = pure false := by rfl)
    (hfew : (((backTo p3 (starEach [e] X.env)).all (!·.1) && (backToKw p3 (keywordEach [] X.env)).all (·.1.isSome)) && decide (([e] : List Expr).length + ([] : List Keyword).length + (if ([] : List Keyword).isEmpty then 0 else 1) < 30)) = true := by rfl)
    (hline : (p2.endLine == p3.line) = true := by rfl) :
    DS X E (.Expr (.Call (.Attribute (.Name x p1) "append" p2) [e] [] p3) pos) (dApp i de) := by
  obtain ⟨t, p, q⟩ := he.run
  refine ⟨_, ps_expr (pe_bm PySem.F.plainAttrs_list PySem.F.slot_list_append PySem.F.type_list_append mt_append (pe_var hN hv hd hcd) (pa_cons p pa_nil hs) hb hfew hline hs rfl) hsw, fun B De Dn l S σ env H a r h => ?_⟩
  unfold dApp at h
  split at h
  · next xs ei =>
    obtain ⟨b, vs, e1, e2, e3, e4, e5, e6⟩ := r.at_ i _ ei
    refine ⟨_, e1, .inl ⟨rfl, _, SqL.of e2⟩, ?_⟩
    refine q _ S H σ env _ _ _ a.g r (l.xl a) h fun v H1 S1 y s1 g1 r1 h1 => ?_
    have r' := r.step s1
    obtain ⟨b', vs', q1, q2, q3, q4, q5, q6⟩ := r'.at_ i _ ei
    rw [e1] at q1; cases q1
    refine ⟨b, vs', v, rfl, rfl, q2, by rw [q6.length]; exact h1.1, ?_⟩
    have a1 := a.step s1 g1
    refine l.nx S1 σ _ _ ⟨good_mut g1 (nx_lst q2) q3 q4, ⟨a1.p.ext, a1.p.new, a1.p.box, fun c o ec hc => ?_⟩, a1.f⟩ (r'.mut ei e1 (q6.app (.one r1))) h1.2
    rw [upd_ne (ne_of_none ec q5)]; exact a1.p.keep c o ec hc
  · exact h.elim
end
abbrev SpD := List D → DK → EK → Prop
structure GFn (P : Program) (w : World) (K : PySem.W.Frag) (mg : Str → Option Value) (base : Heap) (k : Nat) (f : Addr) (fd : FuncData) (ps : List Str) (sp : SpD) : Prop where
  len : ∀ ds Q E, sp ds Q E → ds.length = ps.length
  run : ∀ (A : Around) (outer : List Env) (s : Shared) (H : Hp) (args : Args) (us : List Value) (vs : List V) (Q : VK) (E : XK) (S : Sta) (ds : List D) (Qd : DK) (Ed : EK), Room k A → A.guards = some [] → Env0 P w K mg base A outer s H → BindsTo s fd args (ps.zip us) → Vals vs us →
    Good S H → RpL S.bx S.F vs ds → sp ds Qd Ed → Cont S H Qd Q → XLink mg S H Ed E → codeAny (model P w) A (.call (.ref f) args) (CR (L2.CX P w) outer P w H s Q E) s
theorem GFn.mono {P : Program} {w : World} {K : PySem.W.Frag} {mg : Str → Option Value} {base : Heap} {j k : Nat} {f : Addr} {fd : FuncData} {ps : List Str} {sp : SpD} (F : GFn P w K mg base j f fd ps sp) (h : j ≤ k) :
    GFn P w K mg base k f fd ps sp := ⟨F.len, fun A outer s H args us vs Q E S ds Qd Ed hr => F.run A outer s H args us vs Q E S ds Qd Ed (hr.mono h)⟩
theorem GFn.imp {P : Program} {w : World} {K : PySem.W.Frag} {mg : Str → Option Value} {base : Heap} {k : Nat} {f : Addr} {fd : FuncData} {ps : List Str} {sp sp' : SpD} (F : GFn P w K mg base k f fd ps sp)
    (h : ∀ ds Q E, sp' ds Q E → sp ds Q E) : GFn P w K mg base k f fd ps sp' :=
  ⟨fun ds Q E q => F.len ds Q E (h _ _ _ q), fun A outer s H args us vs Q E S ds Qd Ed hr hg e0 hb hv g rp hs => F.run A outer s H args us vs Q E S ds Qd Ed hr hg e0 hb hv g rp (h _ _ _ hs)⟩
def dstart (n : Nat) (ds : List D) : Env' := ds.map Sl.v ++ List.replicate (n - ds.length) Sl.no
theorem rel_start {S : Sta} {H : Hp} {N : List Str} {vs : List V} {ds : List D} (r : RpL S.bx S.F vs ds) : Rel H S H (L2.start N vs) (dstart N.length ds) where
  len := by
    unfold L2.start dstart
    rw [List.length_append, List.length_append, List.length_map, List.length_map, List.length_replicate, List.length_replicate, r.length]
  at_ := fun i s e => by
    unfold dstart at e
    by_cases hi : i < ds.length
    · rw [List.getElem?_append_left (by simpa using hi), List.getElem?_map] at e
      cases e1 : ds[i]? with
      | none => rw [e1] at e; cases e
      | some d =>
        rw [e1] at e
        cases e
        obtain ⟨v, h1, h2⟩ := r.getD e1
        refine ⟨v, ?_, h2⟩
        unfold L2.start
        rw [List.getElem?_append_left (by rw [List.length_map, r.length]; exact hi), List.getElem?_map, h1]; rfl
    · rw [List.getElem?_append_right (by simpa using hi), List.getElem?_replicate] at e
      split at e
      · cases e; trivial
      · cases e
  sep := fun i j xs ys a _ e1 _ _ => by
    exfalso
    unfold dstart at e1
    by_cases hi : i < ds.length
    · rw [List.getElem?_append_left (by simpa using hi), List.getElem?_map] at e1
      cases e2 : ds[i]? with
      | none => rw [e2] at e1; cases e1
      | some d => rw [e2] at e1; cases e1
    · rw [List.getElem?_append_right (by simpa using hi), List.getElem?_replicate] at e1
      split at e1 <;> cases e1
abbrev cxD (P : Program) (w : World) (K : PySem.W.Frag) (mg : Str → Option Value) (base : Heap) (N : List Str) (qual : Str) (scope : Scope) (f : Addr) (cd : Value) (A : Around) (outer : List Env) (s : Shared) (H : Hp) (E : XK) : Cx :=
  cxOf (L2.CX P w) P w K mg base N qual scope f cd A outer s H E
section
variable {P : Program} {w : World} {K : PySem.W.Frag} {mg : Str → Option Value} {base : Heap}
structure HFn (P : Program) (w : World) (K : PySem.W.Frag) (mg : Str → Option Value) (base : Heap) (k : Nat) (f : Addr) (fd : FuncData) (ps : List Str) (sp : Sp) : Prop where
  len : ∀ vs H Q E, sp vs H Q E → vs.length = ps.length
  run : ∀ (A : Around) (outer : List Env) (s : Shared) (H : Hp) (args : Args) (us : List Value) (vs : List V) (Q : VK) (E : XK), Room k A → A.guards = some [] → Env0 P w K mg base A outer s H → BindsTo s fd args (ps.zip us) → Vals vs us →
    sp vs H Q E → codeAny (model P w) A (.call (.ref f) args) (CR (L2.CX P w) outer P w H s Q E) s
theorem hfn_mk {x qual : Str} {st : Stmt} {f : Addr} {fd : FuncData} {N ps : List Str} {k : Nat} {sp : Sp} (F : Fun K x qual st f fd) (S : FnScope N ps (defScope st)) (len : ∀ vs H Q E, sp vs H Q E → vs.length = ps.length)
    (hbody : ∀ (cdv : Value) (A : Around) (outer : List Env) (s : Shared) (H : Hp) (vs : List V) (Q : VK) (E : XK), Room k (A.deeper (envOfC qual (defScope st) s.heap.objs.size f cdv)) → A.guards = some [] → sp vs H Q E →
      ∃ t, PSs (cxD P w K mg base N qual (defScope st) f cdv A outer s H E) (defBody st) t ∧ t { nx := fun _ H' => Q .non H', rt := Q } (start N vs) H) : HFn P w K mg base (k + 1) f fd ps sp := by
  obtain ⟨oc, od, kV, doc, pm, an, cdv, ct, osl, rfl, lk, hcd⟩ := F.ex
  refine ⟨len, fun A outer s H args us vs Q E hr hgd e0 hb r hsp => ?_⟩
  have hl : vs.length = ps.length := len _ _ _ _ hsp
  have KX : K.In s.heap := e0.mod.kin.keeps fun b o e => (e0.bs b o e).1
  have lim : s.heap.NoLimit := e0.mod.nolimit.keeps fun b o e => (e0.bs b o e).1
  have hkind : ∀ y ∈ ps.zip us, (defScope st).names.lookup y.1 = some .local ∨ ((defScope st).names.lookup y.1 = some .cell ∧ ((cellsFrom (s.heap.objs.size + 1) (defScope st).names []).lookup y.1).isSome = true) := fun ⟨n, v⟩ hy => by
    rcases S.par n (List.of_mem_zip hy).1 with q | q
    · exact .inl q
    · exact .inr ⟨q, PySem.W.cellsFrom_some _ _ _ (.inl q)⟩
  refine codeAny_call_function hr.depth (KX _ _ lk) rfl S.co S.gen rfl (PySem.W.codeRec_of KX hcd) (hb _ _ _ _ ?_)
  refine wpAny_newFunctionEnv_cells S.kind hkind fun env he s1 x => ?_
  subst he
  refine ⟨lim.keeps x.toInCall.keep, codeAny_func ?_⟩
  obtain ⟨t, ht, hrun⟩ := hbody cdv A outer s H vs Q E (hr.deeper _) hgd hsp
  have I : Inv (cxD P w K mg base N qual (defScope st) f cdv A outer s H E) [] (start N vs) H s1 := inv_start S hr.hd e0 hl r x
  refine wpAny_mono (ht.run [] s1 (start N vs) H _ I hrun) (fun fl s' hs => ?_) fun e s' hs => hs
  have fin : ∀ {σ' : L2.St} {H' : Hp} {v : V} {u : Value}, Inv (cxD P w K mg base N qual (defScope st) f cdv A outer s H E) [] σ' H' s' → RelV v u → Q v H' → CE outer P w H s Q u s' :=
    fun {σ' H' v u} J rv q => ⟨v, H', J.os, J.bare, J.base, J.hok, rv, q⟩
  cases fl with
  | ret u =>
    obtain ⟨v, σ', H', J, rv, q⟩ := hs
    exact fin J rv q
  | next =>
    obtain ⟨σ', H', J, q⟩ := hs
    exact fin (v := V.non) (u := Value.none) J rfl q
  | brk =>
    obtain ⟨_, _, _, q⟩ := hs
    exact False.elim q
  | cont =>
    obtain ⟨_, _, _, q⟩ := hs
    exact False.elim q
def liftSp (mg : Str → Option Value) (sp : SpD) : Sp := fun vs H Q E => ∃ (S : Sta) (ds : List D) (Qd : DK) (Ed : EK), Good S H ∧ RpL S.bx S.F vs ds ∧ sp ds Qd Ed ∧ Cont S H Qd Q ∧ XLink mg S H Ed E
theorem GFn.of {k : Nat} {f : Addr} {fd : FuncData} {ps : List Str} {sp : SpD} (h : HFn P w K mg base k f fd ps (liftSp mg sp)) (len : ∀ ds Q E, sp ds Q E → ds.length = ps.length) : GFn P w K mg base k f fd ps sp :=
  ⟨len, fun A outer s H args us vs Q E S ds Qd Ed hr hg e0 hb rv g rp hs k0 l0 => h.run A outer s H args us vs Q E hr hg e0 hb rv ⟨S, ds, Qd, Ed, g, rp, hs, k0, l0⟩⟩
theorem gfn_mk {x qual : Str} {st : Stmt} {f : Addr} {fd : FuncData} {N ps : List Str} {k : Nat} {sp : SpD} {d : DS_} (F : Fun K x qual st f fd) (S : FnScope N ps (defScope st)) (len : ∀ ds Q E, sp ds Q E → ds.length = ps.length)
    (hbody : ∀ (cdv : Value) (A : Around) (outer : List Env) (s : Shared) (H : Hp) (E : XK), Room k (A.deeper (envOfC qual (defScope st) s.heap.objs.size f cdv)) → A.guards = some [] →
      DSs (cxD P w K mg base N qual (defScope st) f cdv A outer s H E) E (defBody st) d)
    (law : ∀ ds Q E, sp ds Q E → d { nx := fun _ => Q .non, rt := Q, ex := E } (dstart N.length ds)) : GFn P w K mg base (k + 1) f fd ps sp := by
  refine GFn.of (hfn_mk F S (fun vs H Q E h => ?_) fun cdv A outer s H vs Q E hr hgd hsp => ?_) len
  · obtain ⟨S0, ds, Qd, Ed, g, rp, hsp, _⟩ := h
    rw [rp.length]; exact len _ _ _ hsp
  · obtain ⟨S0, ds, Qd, Ed, g, rp, hsp, k0, l0⟩ := hsp
    obtain ⟨t, ht, hq⟩ := (hbody cdv A outer s H E hr hgd).run
    refine ⟨t, ht, ?_⟩
    refine hq ⟨S0, H, S0.F, S0.bx⟩ { nx := fun _ => Qd .non, rt := Qd, ex := Ed } _ ⟨fun S σ env H1 a _ h => ?_, fun _ _ _ _ _ _ h => h.elim, fun _ _ _ _ _ _ h => h.elim, fun S v dv H1 a rv h => ?_, l0⟩ S0 (start N vs) (dstart N.length ds) H ⟨g, .refl _ _, .refl _ _⟩ (rel_start rp) (law ds Qd Ed hsp)
    · exact k0 .non H1 S .non a.p a.g .non h
    · exact k0 v H1 S dv a.p a.g rv h
structure Cal (P : Program) (w : World) (K : PySem.W.Frag) (mg : Str → Option Value) (base : Heap) (k : Nat) (x : Str) (ps : List Str) (sp : SpD) : Prop where
  ex : ∃ f fd, GFn P w K mg base k f fd ps sp ∧ mg x = some (.ref f) ∧ PySem.W.keepIn K (.ref f) = true ∧ Binds K fd ps []
theorem Cal.mono {j k : Nat} {x : Str} {ps : List Str} {sp : SpD} (c : Cal P w K mg base j x ps sp) (h : j ≤ k) : Cal P w K mg base k x ps sp :=
  let ⟨f, fd, a, b⟩ := c.ex; ⟨f, fd, a.mono h, b⟩
theorem Cal.imp {k : Nat} {x : Str} {ps : List Str} {sp sp' : SpD} (c : Cal P w K mg base k x ps sp) (h : ∀ ds Q E, sp' ds Q E → sp ds Q E) : Cal P w K mg base k x ps sp' :=
  let ⟨f, fd, a, b⟩ := c.ex; ⟨f, fd, a.imp h, b⟩
end
def dCall (sp : SpD) (u : DA_) : DT_ := fun env Q E => u env (fun xs => sp xs Q E) E
section
variable {X : Cx} {E : XK} {k : Nat} {x : Str} {ps : List Str} {sp : SpD} {p pos : Pos} {e : Expr} {es : List Expr} {u : DA_}
theorem run_g {f : Addr} {fd : FuncData} {pins : List (Addr × Obj)} {σ : L2.St} {H : Hp} {s : Shared} {Q : VK} {us : List Value} {vs : List V} {S : Sta} {ds : List D} {Qd : DK} {Ed : EK} (F : GFn X.prog X.w X.K X.mg X.base k f fd ps sp) (hr : Room k X.A) (hgd : X.A.guards = some []) (hb : Binds X.K fd ps []) (hx : Passes (L2.CX X.prog X.w) X E)
    (I : Inv X pins σ H s) (r : Vals vs us) (g : Good S H) (rp : RpL S.bx S.F vs ds) (h : sp ds Qd Ed) (k0 : Cont S H Qd Q) (l : XLink X.mg S H Ed E) : wpAny (model X.prog X.w) X.A (call (.ref f) us) (EP X pins σ Q) X.xe s := by
  have hl : us.length = ps.length := by rw [← r.length, rp.length]; exact F.len _ _ _ h
  have b := hb s us I.kIn (by rw [List.append_nil]; exact hl)
  rw [List.append_nil] at b
  refine wpAny_call (codeAny_mono (F.run X.A X.stack s H ⟨us, []⟩ us vs Q E S ds Qd Ed hr hgd I.env0 b r g rp h k0 l) fun r s' hq => ?_)
  cases r with
  | error e => exact hx pins σ H s e s' I hq
  | ok fl =>
    cases fl with
    | ret u => exact I.after hq
    | next => exact False.elim hq
    | brk => exact False.elim hq
    | cont => exact False.elim hq
def tG (mg : Str → Option Value) (sp : SpD) (E : XK) (t : TA) : TE := fun σ H Q => t σ H fun vs H1 => ∃ S ds Qd Ed, Good S H1 ∧ RpL S.bx S.F vs ds ∧ sp ds Qd Ed ∧ Cont S H1 Qd Q ∧ XLink mg S H1 Ed E
theorem de_call (c : Cal X.prog X.w X.K X.mg X.base k x ps sp) (hr : Room k X.A) (hgd : X.A.guards = some []) (hx : Passes (L2.CX X.prog X.w) X E) (hg : Gl X x) (ha : DA X E (e :: es) u)
    (hdb : (x == ("__debug__" : Str)) = false := by decide) (he : starEach (e :: es) X.env = (false, eval e X.env) :: starEach es X.env := by rfl) (hpl : (backTo pos (starEach es X.env)).any (·.1) = false := by rfl) :
    DE X E (.Call (.Name x p) (e :: es) [] pos) (dCall sp u) := by
  obtain ⟨f, fd, F, hm, hk, hb⟩ := c.ex
  obtain ⟨t, pa, q⟩ := ha.run
  refine ⟨tG X.mg sp E t, ⟨fun pins s σ H Q I h => ?_⟩, fun Z S H σ env Q Qd Ed g r l h k0 => ?_⟩
  · refine wpAny_Call_Name_kw (ld_glob I hg hm ?_ hdb)
    refine PySem.W.callWith_K (h₀ := X.base) I.ok.mod.kin hk (thn (pa.run pos pins s σ H _ I h) fun us s1 ⟨vs, H1, I1, r, S, ds, Qd, Ed, g, rp, h, k0, l⟩ => ⟨I1.kIn, ?_⟩) he hpl
    exact run_g F hr hgd hb hx I1 r g rp h k0 l
  · exact q Z S H σ env _ _ Ed g r l h fun vs H1 S1 xs s1 g1 r1 h1 => ⟨S1, xs, Qd, Ed, g1, r1, h1, k0.step s1 g1, l.step s1 g1⟩
end
theorem passD {P : Program} {w : World} {K : PySem.W.Frag} {mg : Str → Option Value} {base : Heap} {N : List Str} {qual : Str} {scope : Scope} {f : Addr} {cd : Value} {A : Around} {outer : List Env} {s : Shared} {H : Hp} {E : XK} :
    Passes (L2.CX P w) (cxD P w K mg base N qual scope f cd A outer s H E) E :=
  passes_call (X := cxD P w K mg base N qual scope f cd A outer s H E) (takes_of rfl rfl rfl rfl) fun _ _ _ _ h => h
def keyPy : Key → PyData
  | .inl i => .int i
  | .inr s => .str s
mutual
def D.py : D → PyData
  | .non => .none
  | .bl b => .bool b
  | .it i => .int i
  | .st s => .str s
  | .tp xs => .tuple (pyL xs)
  | .ls xs => .list (pyL xs)
  | .dc kvs => .dict (pyK kvs)
  | .bx _ _ => .none
def pyL : List D → List PyData
  | [] => []
  | x :: r => x.py :: pyL r
def pyK : List (Key × D) → List (PyData × PyData)
  | [] => []
  | (k, v) :: r => (keyPy k, v.py) :: pyK r
end
def okStr (s : Str) : Prop := ∀ c ∈ s.cps.toList, c < 16 ^ 8
def okInt (i : Int) : Prop := -(2 ^ 256) < i ∧ i < 2 ^ 256
def okKey : Key → Prop
  | .inl i => okInt i
  | .inr s => okStr s
mutual
def okD : D → Prop
  | .non => True
  | .bl _ => True
  | .it i => okInt i
  | .st s => okStr s
  | .tp xs => okL xs
  | .ls xs => okL xs
  | .dc kvs => okK kvs
  | .bx _ _ => False
def okL : List D → Prop
  | [] => True
  | x :: r => okD x ∧ okL r
def okK : List (Key × D) → Prop
  | [] => True
  | (k, v) :: r => okKey k ∧ okD v ∧ okK r
end
def massKey : Key → Nat
  | .inl _ => 1
  | .inr s => 1 + s.length
mutual
def mass : D → Nat
  | .non => 1
  | .bl _ => 1
  | .it _ => 1
  | .st s => 1 + s.length
  | .tp xs => 1 + massL xs
  | .ls xs => 1 + massL xs
  | .dc kvs => 1 + massK kvs
  | .bx _ _ => 1
def massL : List D → Nat
  | [] => 0
  | x :: r => mass x + massL r
def massK : List (Key × D) → Nat
  | [] => 0
  | (k, v) :: r => massKey k + mass v + massK r
end
mutual
def deep : D → Nat
  | .tp xs => deepL xs + 1
  | .ls xs => deepL xs + 1
  | .dc kvs => deepK kvs + 1
  | .non => 0
  | .bl _ => 0
  | .it _ => 0
  | .st _ => 0
  | .bx _ _ => 0
def deepL : List D → Nat
  | [] => 0
  | x :: r => max (deep x) (deepL r)
def deepK : List (Key × D) → Nat
  | [] => 0
  | (_, v) :: r => max (deep v) (deepK r)
end
mutual
theorem deep_py : ∀ d : D, d.py.depth = deep d
  | .non => by simp only [D.py, PyData.depth, deep]
  | .bl _ => by simp only [D.py, PyData.depth, deep]
  | .it _ => by simp only [D.py, PyData.depth, deep]
  | .st _ => by simp only [D.py, PyData.depth, deep]
  | .tp xs => by simp only [D.py, PyData.depth, deep, deepL_py xs]
  | .ls xs => by simp only [D.py, PyData.depth, deep, deepL_py xs]
  | .dc kvs => by simp only [D.py, PyData.depth, deep, deepK_py kvs]
  | .bx _ _ => by simp only [D.py, PyData.depth, deep]
theorem deepL_py : ∀ d : List D, PyData.depthAll (pyL d) = deepL d
  | [] => by simp only [pyL, PyData.depthAll, deepL]
  | x :: r => by simp only [pyL, PyData.depthAll, deepL, deep_py x, deepL_py r]
theorem deepK_py : ∀ d : List (Key × D), PyData.depthKv (pyK d) = deepK d
  | [] => by simp only [pyK, PyData.depthKv, deepK]
  | (k, v) :: r => by
    have : (keyPy k).depth = 0 := by cases k <;> simp only [keyPy, PyData.depth]
    simp only [pyK, PyData.depthKv, deepK, deep_py v, deepK_py r, this, Nat.zero_max]
end
theorem log_of {i : Int} (h : okInt i) : i.natAbs.log2 < 256 := by
  by_cases z : i.natAbs = 0
  · rw [z]; decide
  · rw [Nat.log2_lt z]
    have := h.1
    have := h.2
    omega
theorem log19 {i : Int} (h : okInt i) : i.natAbs.log2 < 1920 := Nat.lt_trans (log_of h) (by decide)
theorem len_int {i : Int} (h : okInt i) : (PyData.shown (.int i)).length ≤ 257 := by
  simp only [PyData.shown]
  rw [PySem.ofString_length]
  exact int_text_length_le (k := 256) (by decide) (log_of h)
theorem show_key {k : Key} (h : okKey k) : (keyPy k).showable = true ∧ (keyPy k).shown.length + 4 ≤ 300 * massKey k := by
  cases k with
  | inl i =>
    refine ⟨by simp only [keyPy, PyData.showable, decide_eq_true_eq]; exact log19 h, ?_⟩
    have := len_int (i := i) h
    show (PyData.shown (.int i)).length + 4 ≤ 300 * 1
    omega
  | inr s =>
    refine ⟨by simp only [keyPy, PyData.showable], ?_⟩
    have := PySem.StrLaws.reprText_len s h
    show (PyData.shown (.str s)).length + 4 ≤ 300 * (1 + s.length)
    simp only [PyData.shown]
    omega
mutual
theorem show_ok : ∀ d : D, okD d → d.py.showable = true ∧ d.py.shown.length + 2 ≤ 300 * mass d
  | .non, _ => ⟨by simp only [D.py, PyData.showable], by show 4 + 2 ≤ 300 * 1; decide⟩
  | .bl b, _ => ⟨by simp only [D.py, PyData.showable], by cases b <;> decide⟩
  | .it i, h => ⟨by simp only [D.py, PyData.showable, decide_eq_true_eq]; exact log19 (by simpa only [okD] using h), by
      have := len_int (i := i) (by simpa only [okD] using h)
      show (PyData.shown (.int i)).length + 2 ≤ 300 * 1
      omega⟩
  | .st s, h => ⟨by simp only [D.py, PyData.showable], by
      have := PySem.StrLaws.reprText_len s (by simp only [okD] at h; exact h)
      show (PyData.shown (.str s)).length + 2 ≤ 300 * (1 + s.length)
      simp only [PyData.shown]
      omega⟩
  | .tp xs, h => by
    obtain ⟨a, b⟩ := show_okL xs (by simpa only [okD] using h)
    refine ⟨by simp only [D.py, PyData.showable]; exact a, ?_⟩
    have h2 := tupleText_len_le (PyData.shownAll (pyL xs))
    simp only [D.py, PyData.shown, mass]
    omega
  | .ls xs, h => by
    obtain ⟨a, b⟩ := show_okL xs (by simpa only [okD] using h)
    refine ⟨by simp only [D.py, PyData.showable]; exact a, ?_⟩
    have h2 := listText_len_le (PyData.shownAll (pyL xs))
    simp only [D.py, PyData.shown, mass]
    omega
  | .dc kvs, h => by
    obtain ⟨a, b⟩ := show_okK kvs (by simpa only [okD] using h)
    refine ⟨by simp only [D.py, PyData.showable]; exact a, ?_⟩
    have h2 := dictText_len_le (PyData.shownKv (pyK kvs))
    simp only [D.py, PyData.shown, mass]
    omega
  | .bx _ _, h => by simp only [okD] at h
theorem show_okL : ∀ xs : List D, okL xs → PyData.showableAll (pyL xs) = true ∧ ((PyData.shownAll (pyL xs)).map (·.length)).sum + 2 * (PyData.shownAll (pyL xs)).length ≤ 300 * massL xs
  | [], _ => ⟨by simp only [pyL, PyData.showableAll], by simp only [pyL, PyData.shownAll, List.map_nil, List.sum_nil, List.length_nil, massL]; decide⟩
  | x :: r, h => by
    simp only [okL] at h
    obtain ⟨a, b⟩ := show_ok x h.1
    obtain ⟨c, d⟩ := show_okL r h.2
    refine ⟨by simp only [pyL, PyData.showableAll, a, c, Bool.and_self], ?_⟩
    simp only [pyL, PyData.shownAll, List.map_cons, List.sum_cons, List.length_cons, massL]
    omega
theorem show_okK : ∀ xs : List (Key × D), okK xs → PyData.showableKv (pyK xs) = true ∧ ((PyData.shownKv (pyK xs)).map (·.length)).sum + 2 * (PyData.shownKv (pyK xs)).length ≤ 300 * massK xs
  | [], _ => ⟨by simp only [pyK, PyData.showableKv], by simp only [pyK, PyData.shownKv, List.map_nil, List.sum_nil, List.length_nil, massK]; decide⟩
  | (k, v) :: r, h => by
    simp only [okK] at h
    obtain ⟨a0, b0⟩ := show_key h.1
    obtain ⟨a, b⟩ := show_ok v h.2.1
    obtain ⟨c, d⟩ := show_okK r h.2.2
    refine ⟨by simp only [pyK, PyData.showableKv, a0, a, c, Bool.and_self], ?_⟩
    have e2 : ((keyPy k).shown ++ ": " ++ v.py.shown).length = (keyPy k).shown.length + 2 + v.py.shown.length := by
      rw [strLen_append, strLen_append]; rfl
    simp only [pyK, PyData.shownKv, List.map_cons, List.sum_cons, List.length_cons, massK]
    omega
end
structure Fit (d : D) : Prop where
  ok : okD d
  m : mass d ≤ 50000
  h : deep d ≤ 150
theorem Fit.size {d : D} (f : Fit d) : d.py.shown.length ≤ sizeLine := by
  have := (show_ok d f.ok).2
  have := f.m
  rw [sizeLine_eq]
  omega
theorem RpK.keys {t : Option Bx} {F : Hp} : ∀ {vs : List (Key × V)} {ds : List (Key × D)}, RpK t F vs ds → vs.map (·.1) = ds.map (·.1)
  | _, _, .nil => rfl
  | _, _, .cons _ s => by rw [List.map_cons, List.map_cons, s.keys]
theorem keys_reads {P : Program} {w : World} {h : Heap} : ∀ {kvs : List (Key × V)} {ds : List (Key × D)} {vs : List (Key × Value)} {es : List DictEntry}, KV kvs vs → Pairs (mixKind P w) es vs → (kvs.map (·.1)) = ds.map (·.1) → ReadsAll h (es.map (·.key)) ((pyK ds).map (·.1)) []
  | [], [], _, _, .nil, .nil, _ => .nil
  | [], _ :: _, _, _, _, _, e => by simp at e
  | _ :: _, [], _, _, _, _, e => by simp at e
  | (k, v) :: r, (k', d) :: ds, _, _, .cons e1 t, .cons (e := en) q1 q2 q3, e => by
    simp only [List.map_cons, List.cons.injEq] at e
    obtain ⟨rfl, e⟩ := e
    have h1 := keys_reads (h := h) (ds := ds) t q3 e
    have q1' : keyIs k en.key = true := by
      have := e1.1
      have e2 : k = _ := e1.1
      rw [e2]; exact q1
    simp only [pyK, List.map_cons]
    rcases keyIs_shape q1' with ⟨i, t, rfl, ek⟩ | ⟨x, t, rfl, ek⟩
    · exact ReadsAll.cons (as := []) (by rw [ek]; exact Reads.int i t) h1
    · exact ReadsAll.cons (as := []) (by rw [ek]; exact Reads.str x t) h1
mutual
/-- data that stand in the heap read as data; sysModules is none of them -/
theorem Rp.reads {P : Program} {w : World} {S : Sta} {H : Hp} {h : Heap} (ok : HOk P w H h) (g : Good S H) (hm : H sysModules = none) : ∀ (d : D) (v : V) (u : Value), okD d → Rp S.bx S.F v d → RelV v u → ∃ as, Reads h u d.py as ∧ sysModules ∉ as
  | .non, _, _, _, r, e => by cases r; cases e; exact ⟨_, by simp only [D.py]; exact Reads.none, by simp⟩
  | .bl b, _, _, _, r, e => by cases r; cases e; exact ⟨_, by simp only [D.py]; exact Reads.bool b, by simp⟩
  | .it i, _, _, _, r, e => by cases r; obtain ⟨t, rfl⟩ := e; exact ⟨_, by simp only [D.py]; exact Reads.int i t, by simp⟩
  | .st s, _, _, _, r, e => by cases r; obtain ⟨t, rfl⟩ := e; exact ⟨_, by simp only [D.py]; exact Reads.str s t, by simp⟩
  | .tp xs, _, _, k, r, e => by
    cases r with
    | @tp a vs _ e1 rr =>
      cases e
      have q := g.fz _ _ e1
      obtain ⟨_, its, rv, o, ho, hc, n, hd⟩ : ObjOk P w H h a (.tup vs) := ok _ _ q
      obtain ⟨as, h1, h2⟩ := Rp.readsL ok g hm xs vs its (by simpa only [okD] using k) rr rv
      exact ⟨_, by simp only [D.py]; exact Reads.tuple ho hc hd h1, h2⟩
  | .ls xs, _, _, k, r, e => by
    cases r with
    | @ls a vs _ e1 rr =>
      cases e
      have q := g.fz _ _ e1
      obtain ⟨_, its, n, rv, ho⟩ : ObjOk P w H h a (.lst vs) := ok _ _ q
      obtain ⟨as, h1, h2⟩ := Rp.readsL ok g hm xs vs its (by simpa only [okD] using k) rr rv
      refine ⟨_, by simp only [D.py]; exact Reads.list ho rfl rfl (by simpa using h1), ?_⟩
      intro z
      rcases List.mem_cons.mp z with z | z
      · rw [z, q] at hm; cases hm
      · exact h2 z
  | .dc kvs, _, _, k, r, e => by
    cases r with
    | @dc a vs _ e1 rr =>
      cases e
      have q := g.fz _ _ e1
      obtain ⟨_, _, us, rv, o, es, ep, ho, hx, hd, _, hp, _⟩ : ObjOk P w H h a (.dK vs) := ok _ _ q
      obtain ⟨as, h1, h2⟩ := Rp.readsK ok g hm kvs vs us es.toList (by simpa only [okD] using k) rr rv hp
      have h3 := keys_reads (h := h) (ds := kvs) rv hp rr.keys
      refine ⟨_, by simp only [D.py]; exact Reads.dict ho hx.1 hd h3 h1, ?_⟩
      intro z
      rcases List.mem_cons.mp (by simpa using z) with z | z
      · rw [z, q] at hm; cases hm
      · exact h2 z
  | .bx _ _, _, _, k, _, _ => by simp only [okD] at k
theorem Rp.readsL {P : Program} {w : World} {S : Sta} {H : Hp} {h : Heap} (ok : HOk P w H h) (g : Good S H) (hm : H sysModules = none) : ∀ (d : List D) (v : List V) (u : List Value), okL d → RpL S.bx S.F v d → Vals v u → ∃ as, ReadsAll h u (pyL d) as ∧ sysModules ∉ as
  | [], _, _, _, r, e => by cases r; cases e; exact ⟨_, by simp only [pyL]; exact .nil, by simp⟩
  | x :: xs, _, _, k, r, e => by
    simp only [okL] at k
    cases r with
    | cons r1 r2 =>
      cases e with
      | cons e1 e2 =>
        obtain ⟨as, h1, h2⟩ := Rp.reads ok g hm x _ _ k.1 r1 e1
        obtain ⟨bs, h3, h4⟩ := Rp.readsL ok g hm xs _ _ k.2 r2 e2
        refine ⟨_, by simp only [pyL]; exact .cons h1 h3, ?_⟩
        intro z
        rcases List.mem_append.mp z with z | z
        · exact h2 z
        · exact h4 z
theorem Rp.readsK {P : Program} {w : World} {S : Sta} {H : Hp} {h : Heap} (ok : HOk P w H h) (g : Good S H) (hm : H sysModules = none) : ∀ (d : List (Key × D)) (v : List (Key × V)) (u : List (Key × Value)) (es : List DictEntry), okK d → RpK S.bx S.F v d → KV v u → Pairs (mixKind P w) es u →
    ∃ as, ReadsAll h (es.map (·.val)) ((pyK d).map (·.2)) as ∧ sysModules ∉ as
  | [], _, _, _, _, r, e, p => by cases r; cases e; cases p; exact ⟨_, by simp only [pyK, List.map_nil]; exact .nil, by simp⟩
  | (k0, x) :: xs, _, _, _, k, r, e, p => by
    simp only [okK] at k
    cases r with
    | cons r1 r2 =>
      cases e with
      | cons e1 e2 =>
        cases p with
        | cons p1 p2 p3 =>
          obtain ⟨as, h1, h2⟩ := Rp.reads ok g hm x _ _ k.2.1 r1 e1.2
          obtain ⟨bs, h3, h4⟩ := Rp.readsK ok g hm xs _ _ _ k.2.2 r2 e2 p3
          refine ⟨_, by simp only [pyK, List.map_cons]; exact .cons (by rw [p2]; exact h1) h3, ?_⟩
          intro z
          rcases List.mem_append.mp z with z | z
          · exact h2 z
          · exact h4 z
end
end Dl
namespace PySem.SeqAt
open MeetsSeq AutoSeq1
theorem dict_declines_int (l : Addr) (es : Array DictEntry) (n : Nat) (dd : Option Addr) (sl : Array (Option Value)) (b : Int) (u : Tok) :
    Meets (Builtin.«dict.__eq__» ⟨[.ref l, .int b u], []⟩) (fun _ R s => s.heap.get? l = some { cls := .type "dict", dict := dd, data := .dict es n, slots := sl } ∧ R (.ok (.ret .notImplemented)) s) :=
  .of_wp fun prog w A R s h => by obtain ⟨hp, g, d, tk, os⟩ := s; obtain ⟨hl, h⟩ := h; have f1 := F.sub_int_dict; wp_walk using wpAny_loadPart' hl, wpAny_load hl; exact ⟨_, rfl, h⟩
theorem int_declines_dict (b : Int) (u : Tok) (l : Addr) (es : Array DictEntry) (n : Nat) (dd : Option Addr) (sl : Array (Option Value)) :
    Meets (Builtin.«int.__eq__» ⟨[.int b u, .ref l], []⟩) (fun _ R s => s.heap.get? l = some { cls := .type "dict", dict := dd, data := .dict es n, slots := sl } ∧ R (.ok (.ret .notImplemented)) s) :=
  .of_wp fun prog w A R s h => by obtain ⟨hp, g, d, tk, os⟩ := s; obtain ⟨hl, h⟩ := h; wp_walk using wpAny_loadPart' hl, wpAny_load hl; exact ⟨_, rfl, h⟩
theorem rcAt_dict_int {A : Around} {s : Shared} {l : Addr} {o : Obj} {es : Array DictEntry} {n : Nat} (b : Int) (u : Tok) (ho : s.heap.get? l = some o) (hc : o.cls = .type "dict") (hd : o.data = .dict es n) (hu : A.units < cLine) : RcAt A s (.ref l) (.int b u) false := fun prog w E Q h => by
  obtain ⟨cls, dd, data, sl⟩ := o
  simp only at hc hd
  subst hc hd
  exact rc_eq_decline_or (k := false) ⟨_, ho, rfl⟩ (typeIs_int s b u) (by decide) F.sub_int_dict F.slot_dict_eq F.slot_int_eq_refl
    (fun _ hq => call_meets F.slot_dict_eq ⟨_, ho, rfl⟩ F.entry_dict_eq (F.args_dict_eq_2 _ _) (dict_declines_int l es n dd sl b u) ⟨ho, hq⟩)
    (fun _ hq => call_meets F.slot_int_eq_refl (typeIs_int s b u) F.entry_int_eq (F.args_int_eq_2 _ _) (int_declines_dict b u l es n dd sl) ⟨ho, hq⟩)
    (fun _ hq => wpAny_of_eq (rfl : isSame (.ref l) (.int b u) = pure false) hq) (.inr hu) h
end PySem.SeqAt
namespace Dl
open PySem PySem.Spec PyProof.Rows L2
def rReprD : List V → Hp → VK → Prop := fun xs H Q => ∃ x S d, xs = [x] ∧ Good S H ∧ Rp S.bx S.F x d ∧ Fit d ∧ Q (.str d.py.shown) H
theorem sys_none {X : Cx} {pins : List (Addr × Obj)} {σ : L2.St} {H : Hp} {s : Shared} (I : Inv X pins σ H s) (hs : ∃ o, X.base.get? sysModules = some o) : H sysModules = none :=
  let ⟨o, e⟩ := hs; (I.bs _ o e).2
theorem call_reprD {X : Cx} {k : Nat} (hr : Room k X.A) (hgd : X.A.guards = some []) (hs : ∃ o, X.base.get? sysModules = some o) : CallR X (.builtin "repr") rReprD := by
  intro pins s σ H xs us Q I r h
  obtain ⟨x, S, d, rfl, g, rp, f, q⟩ := h
  obtain ⟨u, rfl, ru⟩ := vals1 r
  obtain ⟨as, h1, h2⟩ := Rp.reads I.hok g (sys_none I hs) d x u f.ok rp ru
  have hz := f.size
  have hsh := (show_ok d f.ok).1
  have kk : ∀ h' tk, (∀ b o, s.heap.get? b = some o → h'.get? b = some o) → ∀ u, EP X pins σ Q (.str d.py.shown u) { s with heap := h', toks := tk } := fun h' tk k u => ⟨.str _, H, I.kept k, ⟨_, rfl⟩, q⟩
  have tk : ∀ t u, EP X pins σ Q (.str d.py.shown u) { s with toks := t } := fun t u => ⟨.str _, H, I.tok t, ⟨_, rfl⟩, q⟩
  have big : ∀ a, Reads s.heap (.ref a) d.py as → wpAny (model X.prog X.w) X.A (call (.builtin "repr") [.ref a]) (EP X pins σ Q) X.xe s := fun a h1 =>
    PySem.repr_of_reads' h1 hsh (fun _ => h2) hgd (by have := hr.un; have := f.h; rw [deep_py]; omega) (fun _ _ e => e) (fun h' u t k => kk h' t k u) hz
  cases d with
  | non => cases rp; cases ru; exact PySem.P.repr_of_none (tk _ _)
  | bl b => cases rp; cases ru; exact PySem.P.repr_of_bool (by have := tk (s.toks + 1) s.toks; simpa only [D.py, PyData.shown] using this)
  | it i => cases rp; obtain ⟨t, rfl⟩ := ru; exact PySem.P.repr_of_int (log19 (by have := f.ok; simpa only [okD] using this)) (by have := tk (s.toks + 1) s.toks; simpa only [D.py, PyData.shown] using this)
  | st z => cases rp; obtain ⟨t, rfl⟩ := ru; exact PySem.P.repr_of_str (by have := tk (s.toks + 1) s.toks; simpa only [D.py, PyData.shown] using this) (by simpa only [D.py, PyData.shown] using hz)
  | tp ys => cases rp; cases ru; exact big _ h1
  | ls ys => cases rp; cases ru; exact big _ h1
  | dc ys => cases rp; cases ru; exact big _ h1
  | bx _ _ => have := f.ok; simp only [okD] at this
def oRepr (xs : List D) (Q : DK) : Prop := match xs with | [d] => Fit d ∧ Q (.st d.py.shown) | _ => False
section
variable {X : Cx} {E : XK} {pos : Pos} {a b : Expr} {da db : DT_} {k : Nat}
theorem de_repr {u : DA_} {e : Expr} {p : Pos} (hr : Room k X.A) (hgd : X.A.guards = some []) (hsys : ∃ o, X.base.get? sysModules = some o) (hg : Gl X "repr") (hm : X.mg "repr" = none) (ha : DA X E [e] u)
    (he : starEach [e] X.env = (false, eval e X.env) :: starEach [] X.env := by rfl) : DE X E (.Call (.Name "repr" p) [e] [] pos) (dCB oRepr u) := by
  refine de_callB (call_reprD hr hgd hsys) (fun S => ?_) hg hm (by decide +kernel) ha (by decide) (by decide) he rfl
  intro H vs ds Q Qd g r h k
  unfold oRepr at h
  split at h
  · cases r with
    | cons r1 r2 =>
      cases r2
      exact ⟨_, S, _, rfl, g, r1, h.1, k.now g (.st _) h.2⟩
  · exact h.elim
mutual
def plainD : D → Bool
  | .tp xs => plainDL xs
  | .ls xs => plainDL xs
  | .dc _ => false
  | .bx _ _ => false
  | .non => true
  | .bl _ => true
  | .it _ => true
  | .st _ => true
def plainDL : List D → Bool
  | [] => true
  | x :: r => plainD x && plainDL r
end
mutual
theorem plain_py : ∀ d : D, plainD d = true → d.py.plain = true
  | .non, _ => rfl
  | .bl _, _ => rfl
  | .it _, _ => rfl
  | .st _, _ => rfl
  | .tp xs, h => by simp only [plainD] at h; simp only [D.py, PyData.plain]; exact plainL_py xs h
  | .ls xs, h => by simp only [plainD] at h; simp only [D.py, PyData.plain]; exact plainL_py xs h
  | .dc _, h => by simp only [plainD] at h; cases h
  | .bx _ _, h => by simp only [plainD] at h; cases h
theorem plainL_py : ∀ d : List D, plainDL d = true → PyData.plainAll (pyL d) = true
  | [], _ => rfl
  | x :: r, h => by
    simp only [plainDL, Bool.and_eq_true] at h
    simp only [pyL, PyData.plainAll, plain_py x h.1, plainL_py r h.2, Bool.and_self]
end
mutual
/-- plain data read as data, whatever their numbers -/
theorem Rp.readsP {P : Program} {w : World} {S : Sta} {H : Hp} {h : Heap} (ok : HOk P w H h) (g : Good S H) : ∀ (d : D) (v : V) (u : Value), plainD d = true → Rp S.bx S.F v d → RelV v u → ∃ as, Reads h u d.py as
  | .non, _, _, _, r, e => by cases r; cases e; exact ⟨_, by simp only [D.py]; exact Reads.none⟩
  | .bl b, _, _, _, r, e => by cases r; cases e; exact ⟨_, by simp only [D.py]; exact Reads.bool b⟩
  | .it i, _, _, _, r, e => by cases r; obtain ⟨t, rfl⟩ := e; exact ⟨_, by simp only [D.py]; exact Reads.int i t⟩
  | .st s, _, _, _, r, e => by cases r; obtain ⟨t, rfl⟩ := e; exact ⟨_, by simp only [D.py]; exact Reads.str s t⟩
  | .tp xs, _, _, k, r, e => by
    cases r with
    | @tp a vs _ e1 rr =>
      cases e
      obtain ⟨_, its, rv, o, ho, hc, n, hd⟩ : ObjOk P w H h a (.tup vs) := ok _ _ (g.fz _ _ e1)
      obtain ⟨as, h1⟩ := Rp.readsPL ok g xs vs its (by simpa only [plainD] using k) rr rv
      exact ⟨_, by simp only [D.py]; exact Reads.tuple ho hc hd h1⟩
  | .ls xs, _, _, k, r, e => by
    cases r with
    | @ls a vs _ e1 rr =>
      cases e
      obtain ⟨_, its, n, rv, ho⟩ : ObjOk P w H h a (.lst vs) := ok _ _ (g.fz _ _ e1)
      obtain ⟨as, h1⟩ := Rp.readsPL ok g xs vs its (by simpa only [plainD] using k) rr rv
      exact ⟨_, by simp only [D.py]; exact Reads.list ho rfl rfl (by simpa using h1)⟩
  | .dc kvs, _, _, k, _, _ => by simp only [plainD] at k; cases k
  | .bx _ _, _, _, k, _, _ => by simp only [plainD] at k; cases k
theorem Rp.readsPL {P : Program} {w : World} {S : Sta} {H : Hp} {h : Heap} (ok : HOk P w H h) (g : Good S H) : ∀ (d : List D) (v : List V) (u : List Value), plainDL d = true → RpL S.bx S.F v d → Vals v u → ∃ as, ReadsAll h u (pyL d) as
  | [], _, _, _, r, e => by cases r; cases e; exact ⟨_, by simp only [pyL]; exact .nil⟩
  | x :: xs, _, _, k, r, e => by
    simp only [plainDL, Bool.and_eq_true] at k
    cases r with
    | cons r1 r2 =>
      cases e with
      | cons e1 e2 =>
        obtain ⟨as, h1⟩ := Rp.readsP ok g x _ _ k.1 r1 e1
        obtain ⟨bs, h3⟩ := Rp.readsPL ok g xs _ _ k.2 r2 e2
        exact ⟨_, by simp only [pyL]; exact .cons h1 h3⟩
end
def eqD (x y : D) : Bool := PyData.eqv x.py y.py
def cmpOk (x y : D) : Prop := plainD x = true ∧ plainD y = true ∧ min (deep x) (deep y) ≤ 150
def rEqD (neg : Bool) : R2 := fun x y H Q => (∃ S dx dy, Good S H ∧ Rp S.bx S.F x dx ∧ Rp S.bx S.F y dy ∧ cmpOk dx dy ∧ Q (.bl (neg ^^ eqD dx dy)) H)
def eqIt : D → Int → Bool
  | .it i, j => i == j
  | .bl b, j => (if b then 1 else 0) == j
  | _, _ => false
def isBx : D → Bool
  | .bx _ _ => true
  | _ => false
def rEqIt (neg : Bool) : R2 := fun x y H Q => ∃ S d i, Good S H ∧ Rp S.bx S.F x d ∧ isBx d = false ∧ y = .int i ∧ Q (.bl (neg ^^ eqIt d i)) H
theorem op_eqD (hr : Room k X.A) : OpR X (compareOp .Eq) (rEqD false) := by
  intro pins s σ H x y v u Q I rx ry h
  obtain ⟨S, dx, dy, g, r1, r2, ⟨p1, p2, p3⟩, q⟩ := h
  obtain ⟨as, h1⟩ := Rp.readsP I.hok g dx x v p1 r1 rx
  obtain ⟨bs, h2⟩ := Rp.readsP I.hok g dy y u p2 r2 ry
  rw [Bool.false_xor] at q
  exact SeqAt.eq_plain h1 h2 (plain_py _ p1) (plain_py _ p2) (by rw [deep_py, deep_py]; have := hr.un; omega) ⟨.bl _, H, I, rfl, q⟩
theorem op_neD (hr : Room k X.A) : OpR X (compareOp .NotEq) (rEqD true) := by
  intro pins s σ H x y v u Q I rx ry h
  obtain ⟨S, dx, dy, g, r1, r2, ⟨p1, p2, p3⟩, q⟩ := h
  obtain ⟨as, h1⟩ := Rp.readsP I.hok g dx x v p1 r1 rx
  obtain ⟨bs, h2⟩ := Rp.readsP I.hok g dy y u p2 r2 ry
  rw [Bool.true_xor] at q
  exact SeqAt.ne_plain h1 h2 (plain_py _ p1) (plain_py _ p2) (by rw [deep_py, deep_py]; have := hr.un; omega) ⟨.bl _, H, I, rfl, q⟩
theorem rcAt_it {P : Program} {w : World} {S : Sta} {H : Hp} {s : Shared} {A : Around} (ok : HOk P w H s.heap) (g : Good S H) {d : D} {v : V} {u : Value} (hb : isBx d = false) (r : Rp S.bx S.F v d) (ru : RelV v u) (j : Int) (t : Tok) (hu : A.units < cLine) : SeqAt.RcAt A s u (.int j t) (eqIt d j) := by
  cases r with
  | non => cases ru; exact SeqAt.RcAt.none_int j t
  | bl b => cases ru; exact SeqAt.RcAt.bool_int b j t
  | it i => obtain ⟨t', rfl⟩ := ru; exact SeqAt.RcAt.int_int i t' j t
  | st x => obtain ⟨t', rfl⟩ := ru; exact SeqAt.RcAt.str_int x t' j t
  | @tp a vs _ e rr =>
    cases ru
    obtain ⟨_, its, rv, o, ho, hc, n, hd⟩ : ObjOk P w H s.heap a (.tup vs) := ok _ _ (g.fz _ _ e)
    exact SeqAt.RcAt.tuple_int j t ⟨_, ho, hc, _, hd⟩ hu
  | @ls a vs _ e rr =>
    cases ru
    obtain ⟨_, its, n, rv, ho⟩ : ObjOk P w H s.heap a (.lst vs) := ok _ _ (g.fz _ _ e)
    exact SeqAt.RcAt.list_int j t ⟨_, ho, rfl, _, rfl⟩ hu
  | @dc a vs _ e rr =>
    cases ru
    obtain ⟨_, _, us, rv, o, es, ep, ho, hx, hd, _⟩ : ObjOk P w H s.heap a (.dK vs) := ok _ _ (g.fz _ _ e)
    exact SeqAt.rcAt_dict_int j t ho hx.1 hd hu
  | bx => simp only [isBx, reduceCtorEq] at hb
theorem op_eqIt (hr : Room k X.A) : OpR X (compareOp .Eq) (rEqIt false) := by
  intro pins s σ H x y v u Q I rx ry h
  obtain ⟨S, d, i, g, r1, hb, rfl, q⟩ := h
  obtain ⟨t, rfl⟩ := ry
  rw [Bool.false_xor] at q
  exact rcAt_it I.hok g hb r1 rx i t (by have := hr.un; omega) X.prog X.w X.xe _ ⟨.bl _, H, I, rfl, q⟩
def oEq (x y : D) (Q : DK) : Prop := match y with
  | .it j => isBx x = false ∧ Q (.bl (eqIt x j))
  | y => cmpOk x y ∧ Q (.bl (eqD x y))
def isBxDc : D → Bool
  | .bx _ _ => true
  | .dc _ => true
  | _ => false
def rNeIt : R2 := fun x y H Q => ∃ S d i, Good S H ∧ Rp S.bx S.F x d ∧ isBxDc d = false ∧ y = .int i ∧ Q (.bl (!eqIt d i)) H
theorem rcNe_it {P : Program} {w : World} {S : Sta} {H : Hp} {s : Shared} {A : Around} (ok : HOk P w H s.heap) (g : Good S H) {d : D} {v : V} {u : Value} (hb : isBxDc d = false) (r : Rp S.bx S.F v d) (ru : RelV v u) (j : Int) (t : Tok) (hu : A.units < cLine) : SeqAt.RcNeAt A s u (.int j t) (!eqIt d j) := by
  cases r with
  | non => cases ru; exact SeqAt.RcNeAt.none_int j t
  | bl b => cases ru; exact SeqAt.RcNeAt.bool_int b j t
  | it i => obtain ⟨t', rfl⟩ := ru; exact SeqAt.RcNeAt.int_int i t' j t
  | st x => obtain ⟨t', rfl⟩ := ru; exact SeqAt.RcNeAt.str_int x t' j t
  | @tp a vs _ e rr =>
    cases ru
    obtain ⟨_, its, rv, o, ho, hc, n, hd⟩ : ObjOk P w H s.heap a (.tup vs) := ok _ _ (g.fz _ _ e)
    exact SeqAt.RcNeAt.tuple_int j t ⟨_, ho, hc, _, hd⟩ hu
  | @ls a vs _ e rr =>
    cases ru
    obtain ⟨_, its, n, rv, ho⟩ : ObjOk P w H s.heap a (.lst vs) := ok _ _ (g.fz _ _ e)
    exact SeqAt.RcNeAt.list_int j t ⟨_, ho, rfl, _, rfl⟩ hu
  | dc => simp only [isBxDc, reduceCtorEq] at hb
  | bx => simp only [isBxDc, reduceCtorEq] at hb
theorem op_neIt (hr : Room k X.A) : OpR X (compareOp .NotEq) rNeIt := by
  intro pins s σ H x y v u Q I rx ry h
  obtain ⟨S, d, i, g, r1, hb, rfl, q⟩ := h
  obtain ⟨t, rfl⟩ := ry
  exact rcNe_it I.hok g hb r1 rx i t (by have := hr.un; omega) X.prog X.w X.xe _ ⟨.bl _, H, I, rfl, q⟩
def oNe (x y : D) (Q : DK) : Prop := match y with
  | .it j => isBxDc x = false ∧ Q (.bl (!eqIt x j))
  | y => cmpOk x y ∧ Q (.bl (!eqD x y))
theorem od_eq (S : Sta) : OpD S (fun x y H Q => rEqD false x y H Q ∨ rEqIt false x y H Q) oEq := by
  intro H x y dx dy Q Qd g rx ry h k
  unfold oEq at h
  split at h
  · cases ry
    exact .inr ⟨S, _, _, g, rx, h.1, rfl, by rw [Bool.false_xor]; exact k.now g (.bl _) h.2⟩
  · exact .inl ⟨S, _, _, g, rx, ry, h.1, by rw [Bool.false_xor]; exact k.now g (.bl _) h.2⟩
theorem od_ne (S : Sta) : OpD S (fun x y H Q => rEqD true x y H Q ∨ rNeIt x y H Q) oNe := by
  intro H x y dx dy Q Qd g rx ry h k
  unfold oNe at h
  split at h
  · cases ry
    exact .inr ⟨S, _, _, g, rx, h.1, rfl, k.now g (.bl _) h.2⟩
  · exact .inl ⟨S, _, _, g, rx, ry, h.1, by rw [Bool.true_xor]; exact k.now g (.bl _) h.2⟩
theorem de_eq (hr : Room k X.A) (ha : DE X E a da) (hb : DE X E b db) (hm : behindInMarks .Eq b = false := by first | exact nobehind _ (by decide) (by decide) | rfl) : DE X E (.Compare a [.Eq] [b] pos) (dOp oEq da db) := de_cmp ((op_eqD hr).or (op_eqIt hr)) od_eq ha hb hm
theorem db_eq (hr : Room k X.A) (ha : DE X E a da) (hb : DE X E b db) (hm : behindInMarks .Eq b = false := by first | exact nobehind _ (by decide) (by decide) | rfl) : DB X E (.Compare a [.Eq] [b] pos) (dTst (dOp oEq da db)) := db_cmp ((op_eqD hr).or (op_eqIt hr)) od_eq ha hb hm
theorem db_ne (hr : Room k X.A) (ha : DE X E a da) (hb : DE X E b db) (hm : behindInMarks .NotEq b = false := by first | exact nobehind _ (by decide) (by decide) | rfl) : DB X E (.Compare a [.NotEq] [b] pos) (dTst (dOp oNe da db)) := db_cmp ((op_neD hr).or (op_neIt hr)) od_ne ha hb hm
def rInD2 (neg : Bool) : R2 := fun x y H Q => ∃ S dx ys, Good S H ∧ Rp S.bx S.F x dx ∧ (Rp S.bx S.F y (.tp ys) ∨ Rp S.bx S.F y (.ls ys)) ∧ plainD dx = true ∧ plainDL ys = true ∧ deep dx ≤ 150 ∧ Q (.bl (neg ^^ ys.any fun z => eqD z dx)) H
theorem any_py (d : D) : ∀ ys : List D, (pyL ys).any (fun z => PyData.eqv z d.py) = ys.any fun z => eqD z d
  | [] => rfl
  | y :: r => by simp only [pyL, List.any_cons, any_py d r, eqD]
theorem op_inD2 (hr : Room k X.A) : OpR X (compareOp .In) (rInD2 false) := by
  intro pins s σ H x y v u Q I rx ry h
  obtain ⟨S, dx, ys, g, r1, r2, p1, p2, p3, q⟩ := h
  obtain ⟨as, h1⟩ := Rp.readsP I.hok g dx x v p1 r1 rx
  rw [Bool.false_xor, ← any_py] at q
  rcases r2 with r2 | r2
  · obtain ⟨bs, h2⟩ := Rp.readsP I.hok g _ y u (by simp only [plainD]; exact p2) r2 ry
    simp only [D.py] at h2
    exact SeqAt.in_tuple_data h2 h1 (plainL_py _ p2) (plain_py _ p1) (by rw [deep_py]; have := hr.un; omega) ⟨.bl _, H, I, rfl, q⟩
  · obtain ⟨bs, h2⟩ := Rp.readsP I.hok g _ y u (by simp only [plainD]; exact p2) r2 ry
    simp only [D.py] at h2
    exact SeqAt.in_list_data h2 h1 (plainL_py _ p2) (plain_py _ p1) (by rw [deep_py]; have := hr.un; omega) ⟨.bl _, H, I, rfl, q⟩
def seqOf : D → Option (List D) | .tp xs => some xs | .ls xs => some xs | _ => none
def oIn (x y : D) (Q : DK) : Prop := match seqOf y with | some ys => plainD x = true ∧ plainDL ys = true ∧ deep x ≤ 150 ∧ Q (.bl (ys.any fun z => eqD z x)) | none => False
def oNotIn (x y : D) (Q : DK) : Prop := match seqOf y with | some ys => plainD x = true ∧ plainDL ys = true ∧ deep x ≤ 150 ∧ Q (.bl (!ys.any fun z => eqD z x)) | none => False
theorem seqOf_rp {t : Option Bx} {F : Hp} {y : V} {d : D} {ys : List D} (h : seqOf d = some ys) (r : Rp t F y d) : Rp t F y (.tp ys) ∨ Rp t F y (.ls ys) := by
  cases d <;> simp only [seqOf, Option.some.injEq, reduceCtorEq] at h
  · subst h; exact .inl r
  · subst h; exact .inr r
theorem od_in (S : Sta) : OpD S (rInD2 false) oIn := by
  intro H x y dx dy Q Qd g rx ry h k
  unfold oIn at h
  split at h
  · next ys e => exact ⟨S, _, ys, g, rx, seqOf_rp e ry, h.1, h.2.1, h.2.2.1, by rw [Bool.false_xor]; exact k.now g (.bl _) h.2.2.2⟩
  · exact h.elim
theorem db_in (hr : Room k X.A) (ha : DE X E a da) (hb : DE X E b db) (hm : behindInMarks .In b = false := by first | exact nobehind _ (by decide) (by decide) | rfl) : DB X E (.Compare a [.In] [b] pos) (dTst (dOp oIn da db)) := db_cmp (op_inD2 hr) od_in ha hb hm
end
theorem tuple_mul_same (l : Addr) (items : Array Value) (n : Nat) (dd : Option Addr) (sl : Array (Option Value)) (x : Int) (u : Tok) (c0 : (decide (x < -(2 ^ 63)) || decide (x ≥ 2 ^ 63)) = false) (c1 : (items.isEmpty || x == 1) = true) :
    Meets (Builtin.«tuple.__mul__» ⟨[.ref l, .int x u], []⟩) (fun _ R s => s.heap.get? l = some { cls := .type "tuple", dict := dd, data := .seq items n, slots := sl } ∧ R (.ok (.ret (Value.ref l))) s) :=
  .of_wp fun prog w A R s h => by
    obtain ⟨hp, g, d, tk, os⟩ := s
    obtain ⟨hl, h⟩ := h
    have f1 := AutoSeq1.idx_int
    wp_walk using wpAny_loadPart' hl
    repeat (first
      | (refine wpAny_ite_false (decide_eq_false (by rw [c0]; exact Bool.false_ne_true)) ?_; wp_walk using wpAny_loadPart' hl)
      | (refine wpAny_ite_true (decide_eq_true (by rw [c1])) ?_; wp_walk using wpAny_loadPart' hl))
    exact ⟨_, rfl, h⟩
theorem tuple_mul_none (l : Addr) (items : Array Value) (n : Nat) (dd : Option Addr) (sl : Array (Option Value)) (x : Int) (u : Tok) (c0 : (decide (x < -(2 ^ 63)) || decide (x ≥ 2 ^ 63)) = false) (c1 : (items.isEmpty || x == 1) = false) (c2 : (decide (x ≤ 0) || items.isEmpty) = true) :
    Meets (Builtin.«tuple.__mul__» ⟨[.ref l, .int x u], []⟩) (fun _ R s => s.heap.get? l = some { cls := .type "tuple", dict := dd, data := .seq items n, slots := sl } ∧
      R (.ok (.ret (Value.ref s.heap.objs.size))) { s with heap := s.heap.push { cls := Value.type "tuple", data := Data.seq #[] }, toks := s.toks }) :=
  .of_wp fun prog w A R s h => by
    obtain ⟨hp, g, d, tk, os⟩ := s
    obtain ⟨hl, h⟩ := h
    have f1 := AutoSeq1.idx_int
    wp_walk using wpAny_loadPart' hl
    repeat (first
      | (refine wpAny_ite_false (decide_eq_false (by rw [c0]; exact Bool.false_ne_true)) ?_; wp_walk using wpAny_loadPart' hl)
      | (refine wpAny_ite_false (decide_eq_false (by rw [c1]; exact Bool.false_ne_true)) ?_; wp_walk using wpAny_loadPart' hl)
      | (refine wpAny_ite_true (decide_eq_true (by rw [c2])) ?_; wp_walk using wpAny_loadPart' hl))
    exact ⟨_, rfl, h⟩
def rRepT1 : R2 := fun x y H Q => ∃ l k xs, x = .ref l ∧ y = .int k ∧ H l = some (.tup xs) ∧ -(2 ^ 63) ≤ k ∧ k < 2 ^ 63 ∧ ((xs = [] ∨ k = 1) → Q (.ref l) H) ∧ (xs ≠ [] → k ≤ 0 → ∀ p, H p = none → Q (.ref p) (upd H p (.tup []))) ∧ (xs = [] ∨ k = 1 ∨ k ≤ 0)
theorem op_repT1 {X : Cx} : OpR X (binaryOp .Mult) rRepT1 := by
  intro pins s σ H x y v u Q I rx ry h
  obtain ⟨l, k, xs, rfl, rfl, hT, h1, h2, q1, q2, q3⟩ := h
  cases rx
  obtain ⟨t, rfl⟩ := ry
  obtain ⟨hs, its, r, ⟨cls, dd, data, sl⟩, ho, hc, n, hd⟩ : ObjOk X.prog X.w H s.heap l (.tup xs) := I.hok _ _ hT
  simp only at hc hd
  subst hc hd
  have hle : its.length = xs.length := r.length.symm
  have c0 : (decide (k < -(2 ^ 63)) || decide (k ≥ 2 ^ 63)) = false := by
    rw [decide_eq_false (by omega), decide_eq_false (by omega)] <;> rfl
  refine wpAny_binaryOp_repeat_ref (T := "tuple") (U := "int") (by decide) ⟨_, ho, rfl⟩ (fun s' => typeIs_int s' k t) noFill_tuple_mul F.fills_int_mul F.slot_int_rmul repeat_tuple F.slot_int_index.lookup
    (call_meets F.slot_int_rmul (typeIs_int s k t) F.entry_int_rmul (F.args_int_rmul_2 _ _) (int_rmul_tuple k t l its.toArray n dd sl)
      ⟨ho, rfl, ⟨_, ho, rfl⟩, ?_⟩)
  by_cases he : xs = [] ∨ k = 1
  · have c1 : (its.toArray.isEmpty || k == 1) = true := by
      rcases he with he | he
      · subst he
        have : its = [] := List.eq_nil_of_length_eq_zero hle
        subst this; rfl
      · subst he; simp
    exact call_meets F.slot_tuple_mul ⟨_, ho, rfl⟩ F.entry_tuple_mul (F.args_tuple_mul_2 _ _) (tuple_mul_same l its.toArray n dd sl k t c0 c1) ⟨ho, ⟨.ref l, H, I, rfl, q1 he⟩⟩
  · have hx : xs ≠ [] := fun z => he (.inl z)
    have hk : k ≤ 0 := by
      rcases q3 with z | z | z
      · exact absurd z hx
      · exact absurd z fun z => he (.inr z)
      · exact z
    have hn : its ≠ [] := fun e => hx (by rw [e] at hle; exact List.eq_nil_of_length_eq_zero hle.symm)
    have hi : its.toArray.isEmpty = false := by
      cases its with
      | nil => exact absurd rfl hn
      | cons a b => rfl
    have c1 : (its.toArray.isEmpty || k == 1) = false := by
      rw [hi, Bool.false_or]
      exact beq_eq_false_iff_ne.mpr (by omega)
    have c2 : (decide (k ≤ 0) || its.toArray.isEmpty) = true := by rw [decide_eq_true hk]; rfl
    refine call_meets F.slot_tuple_mul ⟨_, ho, rfl⟩ F.entry_tuple_mul (F.args_tuple_mul_2 _ _) (tuple_mul_none l its.toArray n dd sl k t c0 c1 c2) ⟨ho, ?_⟩
    refine ⟨.ref s.heap.objs.size, _, I.laid (t' := s.toks) (o := .tup []) (fun b ob q => Heap.get?_push_of_some _ q) (Nat.le_refl _) ?_, rfl, q2 hx hk _ (I.hok.fresh (Nat.le_refl _))⟩
    exact ⟨Nat.zero_le _, _, .nil, IsTup.new _ _⟩
def oMulT (x y : D) (Q : DK) : Prop := match x, y with
  | .tp i, .it j => -(2 ^ 63) ≤ j ∧ j ≤ 1000 ∧ i.length ≤ 1000 ∧ Q (.tp (List.replicate j.toNat i).flatten)
  | _, _ => False
theorem rep_nil {α : Type} : ∀ n : Nat, (List.replicate n ([] : List α)).flatten = []
  | 0 => rfl
  | n + 1 => by rw [List.replicate_succ, List.flatten_cons, rep_nil n]; rfl
theorem od_mulT {K : PySem.W.Frag} (S : Sta) : OpD S (fun x y H Q => rRepT1 x y H Q ∨ rRepT K x y H Q) oMulT := by
  intro H x y dx dy Q Qd g rx ry h k
  unfold oMulT at h
  split at h
  · next i j =>
    cases ry
    cases rx with
    | @tp a vs _ e1 r1 =>
      obtain ⟨h1, h2, h3, h4⟩ := h
      have hl := r1.length
      by_cases hz : vs = [] ∨ j = 1 ∨ j ≤ 0
      · refine .inl ⟨_, _, _, rfl, rfl, g.fz _ _ e1, h1, by omega, fun z => ?_, fun zx zk => ?_, hz⟩
        · refine k.now g (.tp e1 r1) ?_
          rcases z with z | z
          · subst z; cases r1; rw [rep_nil] at h4; exact h4
          · subst z
            have e : (List.replicate (1 : Int).toNat i).flatten = i := by
              show (List.replicate 1 i).flatten = i
              rw [List.replicate_succ, List.flatten_cons]; simp
            rw [e] at h4; exact h4
        · refine k.tup g .nil ?_
          have e : j.toNat = 0 := by omega
          rw [e] at h4; exact h4
      · have hv : vs ≠ [] := fun z => hz (.inl z)
        refine .inr ⟨_, _, _, rfl, rfl, SqT.of (g.fz _ _ e1), hv, by omega, h2, by rw [hl]; exact h3, k.tup g (r1.rep _) h4⟩
  · exact h.elim
def oMulA (x y : D) (Q : DK) : Prop := match x, y with
  | .it i, .it j => CMul i j ∧ Q (.it (i * j))
  | .tp i, .it j => -(2 ^ 63) ≤ j ∧ j ≤ 1000 ∧ i.length ≤ 1000 ∧ Q (.tp (List.replicate j.toNat i).flatten)
  | .ls i, .it j => -(2 ^ 63) ≤ j ∧ j < 2 ^ 63 ∧ szOk (i.length * j.toNat) ∧ Q (.ls (List.replicate j.toNat i).flatten)
  | _, _ => False
theorem od_mulA {K : PySem.W.Frag} (S : Sta) : OpD S (fun x y H Q => (rRepT1 x y H Q ∨ rRepT K x y H Q) ∨ rMulA K x y H Q) oMulA := by
  intro H x y dx dy Q Qd g rx ry h k
  unfold oMulA at h
  split at h
  · exact .inr (od_mul S H _ _ _ _ Q Qd g rx ry (by unfold oMul; exact h) k)
  · exact .inl (od_mulT S H _ _ _ _ Q Qd g rx ry (by unfold oMulT; exact h) k)
  · exact .inr (od_mul S H _ _ _ _ Q Qd g rx ry (by unfold oMul; exact h) k)
  · exact h.elim
theorem sliceApplied_rev {prog : Program} {w : World} {A : Around} {E : Value → Shared → Prop} {s : Shared} {sl : Addr} {vl vu vs : Value} {n : Nat} {Q : Int × Int × Nat → Shared → Prop} (hs : s.heap.IsSliceOf sl vl vu vs) (pl : IsPart vl none) (pu : IsPart vu none) (ps : IsPart vs (some (-1)))
    (h : Q (((n : Nat) : Int) - 1, -1, n) s) : wpAny (model prog w) A (Builtin.Slice.sliceApplied (.ref sl) (pure (n : Int))) Q E s := by
  obtain ⟨os, hos, hcs, hds⟩ := id hs
  unfold Builtin.Slice.sliceApplied Builtin.Slice.sliceFields
  refine wpAny_bind (wpAny_bind (wpAny_field hos hds (x := vl) rfl (wpAny_bind (wpAny_field hos hds (x := vu) rfl (wpAny_bind (wpAny_field hos hds (x := vs) rfl (wpAny_pure ?_)))))))
  refine wpAny_bind (HT.slicePart_ ps ?_)
  show wpAny _ _ (if ((-1 : Int) == 0) = true then _ else _) _ _ s
  rw [if_neg (by decide)]
  refine wpAny_bind (HT.slicePart_ pl (wpAny_bind (HT.slicePart_ pu (wpAny_bind (wpAny_pure ?_)))))
  have e : Builtin.Slice.sliceAdjust none none (-1) (n : Int) = ((n : Int) - 1, -1) := rfl
  have e2 : Builtin.Slice.slicePlaces ((n : Int) - 1) (-1) (-1) = n := by
    unfold Builtin.Slice.slicePlaces
    have h1 : ¬ ((-1 : Int) > 0) := by decide
    simp only [h1, if_false, Int.neg_neg, Int.ediv_one]
    split <;> omega
  show wpAny _ _ (match Builtin.Slice.sliceAdjust none none (-1) (n : Int) with | (lo, hi) => pure (lo, (-1 : Int), Builtin.Slice.slicePlaces lo hi (-1))) _ _ s
  rw [e]
  show wpAny _ _ (pure ((n : Int) - 1, (-1 : Int), Builtin.Slice.slicePlaces ((n : Int) - 1) (-1) (-1))) _ _ s
  rw [e2]
  exact wpAny_pure h
theorem rev_pick (items : Array Value) : ((List.range items.size).filterMap fun (k : Nat) => items[(((items.size : Nat) : Int) - 1 + (k : Int) * (-1)).toNat]?).toArray = items.toList.reverse.toArray := by
  have e : (fun (k : Nat) => items[(((items.size : Nat) : Int) - 1 + (k : Int) * (-1)).toNat]?) = fun k => items[items.size - 1 - k]? := by
    funext k
    have : (((items.size : Nat) : Int) - 1 + (k : Int) * (-1)).toNat = items.size - 1 - k := by omega
    rw [this]
  rw [e]
  have := PySem.W.krv_range items.size
  have e2 : (List.range items.size).filterMap (fun k => items[items.size - 1 - k]?) = ((List.range items.size).map fun k => items.size - 1 - k).filterMap (items[·]?) := by
    rw [List.filterMap_map]; rfl
  rw [e2, this, List.filterMap_reverse, PySem.W.krv_all]
theorem getItem_tuple_rev {prog : Program} {w : World} {A : Around} {E : Value → Shared → Prop} {s : Shared} {t sl : Addr} {items : Array Value} {vl vu vs : Value} {Q : Value → Shared → Prop} (ht : IsTup s.heap t items) (hs : s.heap.IsSliceOf sl vl vu vs) (pl : IsPart vl none) (pu : IsPart vu none) (ps : IsPart vs (some (-1)))
    (h : Q (.ref s.heap.objs.size) { s with heap := s.heap.push { cls := .type "tuple", data := .seq items.toList.reverse.toArray } }) (hsz : items.size ≤ sizeLine) : wpAny (model prog w) A (getItem (.ref t) (.ref sl)) Q E s := by
  have htake : sizeOk (.seq items.toList.reverse.toArray) := by
    show items.toList.reverse.toArray.size ≤ sizeLine
    rw [List.size_toArray, List.length_reverse, Array.length_toList]
    exact hsz
  obtain ⟨os, hos, hcs, hds⟩ := id hs
  have hTs : s.TypeIs (.ref sl) "slice" := ⟨os, hos, hcs⟩
  unfold getItem
  try with_reducible refine wpAny_holding ?_
  first | refine wpAny_bind (wpAny_pure ?_) | skip
  refine wpAny_bind (wpAny_sequenceKey ht.typeIs (by decide) ?_)
  refine wpAny_bind (wpAny_callSpecial?_slot (name := Str.ofString "__getitem__") ht.typeIs PyProof.Rows.slot_tuple_getitem
    (wpAny_call_entry PyProof.Rows.slot_tuple_getitem ht.typeIs entry_tuple_getitem ?_ (args_tuple_getitem _ _)))
  show wpAny _ _ (Builtin.Tuple.tupleItemsOf (.ref t) >>= _) _ _ s
  refine wpAny_bind (tupleItemsOf_ ht ?_)
  refine wpAny_bind (wpAny_typeOf hTs ?_)
  rw [if_pos (by decide)]
  refine wpAny_bind (sliceApplied_rev hs pl pu ps ?_)
  have hno : ¬ (((((items.size : Nat) : Int) - 1) == 0 && (-1 : Int) == 1 && items.size == items.size) = true) := by
    intro q
    rw [Bool.and_eq_true, Bool.and_eq_true] at q
    exact absurd (eq_of_beq q.1.2) (by decide)
  show wpAny _ _ (if ((((items.size : Nat) : Int) - 1) == 0 && (-1 : Int) == 1 && items.size == items.size) = true then _ else _) _ _ s
  rw [if_neg hno, rev_pick]
  first
    | exact wpAny_bind (m := Builtin.Tuple.tupleExact _) (wpAny_newObj_type (wpAny_pure ⟨_, rfl, wpAny_pure h⟩) htake)
    | exact wpAny_bind (m := Builtin.Tuple.tupleExact _) (wpAny_newObj_type (wpAny_bind (wpAny_pure (wpAny_pure ⟨_, rfl, wpAny_pure h⟩))) htake)
    | exact wpAny_bind (wpAny_bind (m := Builtin.Tuple.tupleExact _) (wpAny_newObj_type (wpAny_pure (wpAny_pure ⟨_, rfl, wpAny_pure h⟩)) htake))
    | exact wpAny_bind (wpAny_bind (m := Builtin.Tuple.tupleExact _) (wpAny_newObj_type (wpAny_pure ⟨_, rfl, wpAny_pure h⟩) htake))
def tRevTL (te : TE) : TE := fun σ H Q => te σ H fun x H1 => ∃ a xs, x = .ref a ∧ ((H1 a = some (.lst xs) ∧ ∀ p, H1 p = none → Q (.ref p) (upd H1 p (.lst xs.reverse))) ∨ (H1 a = some (.tup xs) ∧ ∀ p, H1 p = none → Q (.ref p) (upd H1 p (.tup xs.reverse))))
theorem pe_revTL {X : Cx} {e : Expr} {te : TE} {k : Nat} {p1 p2 p3 pos : Pos} (he : PE X e te) : PE X (.Subscript e (.Slice none none (some (.UnaryOp .USub (.Constant (.int 1) k p1) p2)) p3) pos) (tRevTL te) := by
  refine ⟨fun pins s σ H Q I h => ?_⟩
  refine Subscript_ (thn (he.run pins s σ H _ I h) fun v s1 ⟨x, H1, I1, r1, q1⟩ => ?_)
  obtain ⟨a, xs, ex, q⟩ := q1
  subst ex
  cases r1
  have hst : PO X (some (.UnaryOp .USub (.Constant (.int 1) k p1) p2)) (tPart (tUn (rU fun i => .int (-i)) (tC (.int 1)))) := po_some (pe_un un_neg pe_int)
  refine wpAny_Slice (thn (po_none.run pins s1 σ H1 (fun o H2 => o = none ∧ H2 = H1) I1 ⟨rfl, rfl⟩) fun vl s2 ⟨l, H2, I2, pl, el, e2⟩ => ?_)
  subst el e2
  refine thn (po_none.run pins s2 σ H2 (fun o H3 => o = none ∧ H3 = H2) I2 ⟨rfl, rfl⟩) fun vu s3 ⟨u, H3, I3, pu, eu, e3⟩ => ?_
  subst eu e3
  refine thn (hst.run pins s3 σ H3 (fun o H4 => o = some (-1) ∧ H4 = H3) I3 ⟨1, rfl, -1, rfl, rfl, rfl⟩) fun vs s4 ⟨o, H4, I4, ps, eo, e4⟩ => ?_
  subst eo e4
  have I5 : Inv X pins σ H4 { s4 with heap := s4.heap.push { cls := .type "slice", data := .fields #[vl, vu, vs] } } := I4.kept (t' := s4.toks) fun b ob q => Heap.get?_push_of_some _ q
  show wpAny (model X.prog X.w) X.A (subscriptTail e (.Slice none none (some (.UnaryOp .USub (.Constant (.int 1) k p1) p2)) p3) (.ref a) (.ref s4.heap.objs.size)) (EP X pins σ Q) X.xe { s4 with heap := s4.heap.push { cls := .type "slice", data := .fields #[vl, vu, vs] } }
  rcases q with ⟨hx, q⟩ | ⟨hx, q⟩
  · obtain ⟨its, r, ht, hz⟩ := I5.list (SqL.of hx)
    have hlen := r.length
    refine tail_any (ops := [.ref a, .ref s4.heap.objs.size]) ht.isList.typeIs (PySem.slot_list_getitem.lookup) ?_ (by with_unfolding_all rfl)
    refine wpAny_getItem_list_slice ht.isList (Heap.IsSliceOf.new _ vl vu vs) pl pu ps (by decide) ?_ (by rw [List.size_toArray]; omega)
    rw [PySem.W.krv_pick]
    refine ⟨.ref _, _, I5.laid (t' := s4.toks) (o := .lst xs.reverse) (fun b ob q => Heap.get?_push_of_some _ q) (Nat.le_refl _) ?_, rfl, q _ (I5.hok.fresh (Nat.le_refl _))⟩
    exact ⟨by rw [List.length_reverse]; exact hz, _, 0, r.reverse, Heap.get?_push_size _ rfl⟩
  · obtain ⟨its, r, ht, hz⟩ := I5.tuple (SqT.of hx)
    have hlen := r.length
    refine tail_any (ops := [.ref a, .ref s4.heap.objs.size]) ht.typeIs (PyProof.Rows.slot_tuple_getitem.lookup) ?_ (by with_unfolding_all rfl)
    refine getItem_tuple_rev ht (Heap.IsSliceOf.new _ vl vu vs) pl pu ps ?_ (by rw [List.size_toArray]; omega)
    refine ⟨.ref _, _, I5.laid (t' := s4.toks) (o := .tup xs.reverse) (fun b ob q => Heap.get?_push_of_some _ q) (Nat.le_refl _) ?_, rfl, q _ (I5.hok.fresh (Nat.le_refl _))⟩
    exact ⟨by rw [List.length_reverse]; exact hz, _, r.reverse, IsTup.new _ _⟩
theorem RpL.rev {t : Option Bx} {F : Hp} : ∀ {vs : List V} {ds : List D}, RpL t F vs ds → RpL t F vs.reverse ds.reverse
  | _, _, .nil => .nil
  | _, _, .cons r s => by rw [List.reverse_cons, List.reverse_cons]; exact (RpL.rev s).app (.one r)
section
variable {X : Cx} {E : XK} {pos : Pos} {a b : Expr} {da db : DT_} {k : Nat}
theorem de_mulA (ha : DE X E a da) (hb : DE X E b db) : DE X E (.BinOp a .Mult b pos) (dOp oMulA da db) := de_bin ((op_repT1.or op_repT).or or_mulA) od_mulA ha hb
def dRev (da : DT_) : DT_ := fun env Q E => da env (fun x => match x with | .tp xs => Q (.tp xs.reverse) | .ls xs => Q (.ls xs.reverse) | _ => False) E
theorem de_rev {kk : Nat} {p1 p2 p3 : Pos} (ha : DE X E a da) : DE X E (.Subscript a (.Slice none none (some (.UnaryOp .USub (.Constant (.int 1) kk p1) p2)) p3) pos) (dRev da) := by
  obtain ⟨t, p, q⟩ := ha.run
  refine ⟨_, pe_revTL p, fun Z S H σ env Q Qd Ed g r l h k => ?_⟩
  refine q Z S H σ env _ _ Ed g r l h fun v H1 S1 x s1 g1 r1 h1 => ?_
  split at h1
  · cases r1 with
    | tp e rr => exact ⟨_, _, rfl, .inr ⟨g1.fz _ _ e, (k.step s1 g1).tup g1 rr.rev h1⟩⟩
  · cases r1 with
    | ls e rr => exact ⟨_, _, rfl, .inl ⟨g1.fz _ _ e, (k.step s1 g1).lst g1 rr.rev h1⟩⟩
  · exact h1.elim
def dDic0 : DT_ := fun _ Q _ => Q (.dc [])
theorem de_dic0 : DE X E (.Dict [] [] pos) dDic0 := by
  refine ⟨_, pe_dnewK, fun Z S H σ env Q Qd Ed g r l h k p hp => ?_⟩
  obtain ⟨s, g'⟩ := step_new g (o := .dK []) hp
  exact k _ _ _ _ s g' (.dc (by show upd S.F p (.dK []) p = _; exact upd_same) .nil) h
def dDic1 (x : Str) (da : DT_) : DT_ := fun env Q E => da env (fun y => Q (.dc [(.inr x, y)])) E
theorem de_dic1 {x : Str} {j p1} (ha : DE X E a da) : DE X E (.Dict [some (.Constant (.str x) j p1)] [a] pos) (dDic1 x da) := by
  obtain ⟨t, pa, q⟩ := ha.run
  refine ⟨_, pe_disp (pps_cons pe_str pa pps_nil) rfl rfl (by simp) (by show 1 ≤ 15; decide), fun Z S H σ env Q Qd Ed g r l h k p hp => ?_⟩
  obtain ⟨s0, g0⟩ := step_own g (o := .dK []) hp
  have nb : ¬ InB S.bx p := fun z => (by obtain ⟨o, e⟩ := g.box z; rw [hp] at e; cases e)
  have nf : S.F p = none := none_of_keep fun o e => (by have := g.fz _ _ e; rw [hp] at this; cases this)
  refine q Z S (upd H p (.dK [])) σ env _ _ Ed g0 (r.step s0) (l.step s0 g0) h fun v H1 S1 y s1 g1 r1 h1 => ?_
  have e1 : H1 p = some (.dK []) := s1.keep _ _ upd_same nb
  have nf1 : S1.F p = none := none_of_keep fun o e => (by
    rcases s1.new _ _ e with z | z
    · rw [nf] at z; cases z
    · rw [upd_same] at z; cases z)
  have nb1 : ¬ InB S1.bx p := fun z => (by
    rcases s1.inB z with z | z
    · exact nb z
    · rw [upd_same] at z; cases z)
  refine ⟨e1, [(.inr x, v)], rfl, by show 1 ≤ 15; decide, ?_⟩
  have em : mergeK [] [((.inr x : Key), v)] = [((.inr x : Key), v)] := rfl
  rw [em]
  have g2 := good_mut (o := .dK [((.inr x : Key), v)]) g1 (nx_dK e1) nf1 nb1
  have g3 := good_frz g2 upd_same nb1
  have s2 : Stp S H ⟨S1.bx, upd S1.F p (.dK [((.inr x : Key), v)])⟩ (upd H1 p (.dK [((.inr x : Key), v)])) := by
    have s01 := s0.trans g0 s1
    refine ⟨fun b o e => ?_, fun b o e => ?_, s01.box, fun b o e hb => ?_⟩
    · have : b ≠ p := fun z => by rw [z, nf] at e; cases e
      show upd S1.F p _ b = _
      rw [upd_ne this]; exact s01.ext b o e
    · by_cases z : b = p
      · rw [z]; exact .inr hp
      · have e' : upd S1.F p (.dK [((.inr x : Key), v)]) b = some o := e
        rw [upd_ne z] at e'
        exact s01.new b o e'
    · rw [upd_ne (ne_of_none e hp)]; exact s01.keep b o e hb
  have le : Le S1.bx S1.F S1.bx (upd S1.F p (.dK [((.inr x : Key), v)])) := ⟨fun b o e => by
    have : b ≠ p := fun z => by rw [z, nf1] at e; cases e
    rw [upd_ne this]; exact e, fun _ e => e⟩
  exact k _ _ _ _ s2 g3 (.dc (by show upd S1.F p _ p = _; exact upd_same) (.cons (r1.le le) .nil)) h1
def oInt (xs : List D) (Q : DK) : Prop := match xs with | [.it i] => Q (.it i) | [.bl b] => Q (.it (if b then 1 else 0)) | _ => False
def oAbs (xs : List D) (Q : DK) : Prop := match xs with | [.it i] => Q (.it (if i < 0 then -i else i)) | _ => False
theorem de_int1 {u : DA_} {e : Expr} {p : Pos} (hg : Gl X "int") (hm : X.mg "int" = none) (ha : DA X E [e] u) (he : starEach [e] X.env = (false, eval e X.env) :: starEach [] X.env := by rfl) : DE X E (.Call (.Name "int" p) [e] [] pos) (dCB oInt u) := by
  refine de_callTy call_int1 (fun S => ?_) hg hm (by decide +kernel) ha (by decide) (by decide) he rfl
  intro H vs ds Q Qd g r h k
  unfold oInt at h
  split at h
  · cases r with
    | cons r1 r2 => cases r2; cases r1; exact .inl ⟨_, rfl, k.now g (.it _) h⟩
  · cases r with
    | cons r1 r2 => cases r2; cases r1; exact .inr ⟨_, rfl, k.now g (.it _) h⟩
  · exact h.elim
theorem de_abs {u : DA_} {e : Expr} {p : Pos} (hg : Gl X "abs") (hm : X.mg "abs" = none) (ha : DA X E [e] u) (he : starEach [e] X.env = (false, eval e X.env) :: starEach [] X.env := by rfl) : DE X E (.Call (.Name "abs" p) [e] [] pos) (dCB oAbs u) := by
  refine de_callB call_abs (fun S => ?_) hg hm (by decide +kernel) ha (by decide) (by decide) he rfl
  intro H vs ds Q Qd g r h k
  unfold oAbs at h
  split at h
  · cases r with
    | cons r1 r2 => cases r2; cases r1; exact ⟨_, rfl, k.now g (.it _) h⟩
  · exact h.elim
def intsD : List D → Option (List Int)
  | [] => some []
  | .it i :: r => (intsD r).map (i :: ·)
  | _ => none
theorem intsD_eq : ∀ {xs : List D} {ns : List Int}, intsD xs = some ns → xs = ns.map D.it
  | [], ns, h => by simp [intsD] at h; subst h; rfl
  | .it i :: r, ns, h => by
    simp only [intsD, Option.map_eq_some_iff] at h
    obtain ⟨ms, h1, rfl⟩ := h
    rw [intsD_eq h1]; rfl
  | .non :: _, _, h => by simp [intsD] at h
  | .bl _ :: _, _, h => by simp [intsD] at h
  | .st _ :: _, _, h => by simp [intsD] at h
  | .tp _ :: _, _, h => by simp [intsD] at h
  | .ls _ :: _, _, h => by simp [intsD] at h
  | .dc _ :: _, _, h => by simp [intsD] at h
  | .bx _ _ :: _, _, h => by simp [intsD] at h
theorem intsD_map : ∀ ns : List Int, intsD (ns.map D.it) = some ns
  | [] => rfl
  | n :: r => by simp only [List.map_cons, intsD, intsD_map r, Option.map_some]
theorem rpl_ints {t : Option Bx} {F : Hp} : ∀ {ns : List Int} {vs : List V}, RpL t F vs (ns.map D.it) → vs = ns.map V.int
  | [], _, .nil => rfl
  | n :: r, _, .cons h1 h2 => by cases h1; rw [rpl_ints h2]; rfl
def boolsD : List D → Option (List Bool)
  | [] => some []
  | .bl i :: r => (boolsD r).map (i :: ·)
  | _ => none
theorem boolsD_eq : ∀ {xs : List D} {ns : List Bool}, boolsD xs = some ns → xs = ns.map D.bl
  | [], ns, h => by simp [boolsD] at h; subst h; rfl
  | .bl i :: r, ns, h => by
    simp only [boolsD, Option.map_eq_some_iff] at h
    obtain ⟨ms, h1, rfl⟩ := h
    rw [boolsD_eq h1]; rfl
  | .non :: _, _, h => by simp [boolsD] at h
  | .it _ :: _, _, h => by simp [boolsD] at h
  | .st _ :: _, _, h => by simp [boolsD] at h
  | .tp _ :: _, _, h => by simp [boolsD] at h
  | .ls _ :: _, _, h => by simp [boolsD] at h
  | .dc _ :: _, _, h => by simp [boolsD] at h
  | .bx _ _ :: _, _, h => by simp [boolsD] at h
theorem boolsD_map : ∀ ns : List Bool, boolsD (ns.map D.bl) = some ns
  | [] => rfl
  | n :: r => by simp only [List.map_cons, boolsD, boolsD_map r, Option.map_some]
theorem rpl_bools {t : Option Bx} {F : Hp} : ∀ {ns : List Bool} {vs : List V}, RpL t F vs (ns.map D.bl) → vs = ns.map V.bl
  | [], _, .nil => rfl
  | n :: r, _, .cons h1 h2 => by cases h1; rw [rpl_bools h2]; rfl
def oSum (xs : List D) (Q : DK) : Prop := match xs with | [.ls ys] => ∃ ns, intsD ys = some ns ∧ Q (.it ns.sum) | _ => False
def oMaxL (xs : List D) (Q : DK) : Prop := match xs with
  | [.ls ys] => ∃ ns, intsD ys = some ns ∧ ns ≠ [] ∧ ∀ m, m ∈ ns → (∀ y ∈ ns, y ≤ m) → Q (.it m)
  | [.it i, .it j] => Q (.it (if j > i then j else i))
  | _ => False
def oMinL (xs : List D) (Q : DK) : Prop := match xs with
  | [.ls ys] => ∃ ns, intsD ys = some ns ∧ ns ≠ [] ∧ ∀ m, m ∈ ns → (∀ y ∈ ns, m ≤ y) → Q (.it m)
  | [.it i, .it j] => Q (.it (if j < i then j else i))
  | _ => False
def oAny (xs : List D) (Q : DK) : Prop := match xs with | [.ls ys] => ∃ ns, boolsD ys = some ns ∧ Q (.bl (ns.any id)) | _ => False
def oAll (xs : List D) (Q : DK) : Prop := match xs with | [.ls ys] => ∃ ns, boolsD ys = some ns ∧ Q (.bl (ns.all id)) | _ => False
theorem de_any {u : DA_} {e : Expr} {p : Pos} (hc : X.calm = true) (hg : Gl X "any") (hm : X.mg "any" = none) (ha : DA X E [e] u) (he : starEach [e] X.env = (false, eval e X.env) :: starEach [] X.env := by rfl) : DE X E (.Call (.Name "any" p) [e] [] pos) (dCB oAny u) := by
  refine de_callB (cr_any hc) (fun S => ?_) hg hm (by decide +kernel) ha (by decide) (by decide) he rfl
  intro H vs ds Q Qd g r h k
  unfold oAny at h
  split at h
  · obtain ⟨ns, en, h⟩ := h
    have := boolsD_eq en
    subst this
    cases r with
    | cons r1 r2 =>
      cases r2
      cases r1 with
      | ls e rr =>
        have := rpl_bools rr
        subst this
        exact ⟨_, ns, rfl, SqL.of (g.fz _ _ e), k.now g (.bl _) h⟩
  · exact h.elim
theorem de_all {u : DA_} {e : Expr} {p : Pos} (hc : X.calm = true) (hg : Gl X "all") (hm : X.mg "all" = none) (ha : DA X E [e] u) (he : starEach [e] X.env = (false, eval e X.env) :: starEach [] X.env := by rfl) : DE X E (.Call (.Name "all" p) [e] [] pos) (dCB oAll u) := by
  refine de_callB (cr_all hc) (fun S => ?_) hg hm (by decide +kernel) ha (by decide) (by decide) he rfl
  intro H vs ds Q Qd g r h k
  unfold oAll at h
  split at h
  · obtain ⟨ns, en, h⟩ := h
    have := boolsD_eq en
    subst this
    cases r with
    | cons r1 r2 =>
      cases r2
      cases r1 with
      | ls e rr =>
        have := rpl_bools rr
        subst this
        exact ⟨_, ns, rfl, SqL.of (g.fz _ _ e), k.now g (.bl _) h⟩
  · exact h.elim
theorem cr_or {X : Cx} {f : Value} {r r' : List V → Hp → VK → Prop} (h : CallR X f r) (h' : CallR X f r') : CallR X f (fun xs H Q => r xs H Q ∨ r' xs H Q) := by
  intro pins s σ H xs us Q I rv q
  rcases q with q | q
  · exact h pins s σ H xs us Q I rv q
  · exact h' pins s σ H xs us Q I rv q
end
mutual
def lfD : D → Bool
  | .tp xs => lfL xs
  | .ls _ => false
  | .dc kvs => lfK kvs
  | .bx _ _ => true
  | .non => true
  | .bl _ => true
  | .it _ => true
  | .st _ => true
def lfL : List D → Bool
  | [] => true
  | x :: r => lfD x && lfL r
def lfK : List (Key × D) → Bool
  | [] => true
  | (_, x) :: r => lfD x && lfK r
end
def cut (F : Hp) (p : Addr) : Hp := fun a => if a = p then none else F a
theorem cut_ne {F : Hp} {p a : Addr} (h : a ≠ p) : cut F p a = F a := by unfold cut; rw [if_neg h]
theorem cut_some {F : Hp} {p a : Addr} {o : HO} (h : cut F p a = some o) : a ≠ p ∧ F a = some o := by
  unfold cut at h
  split at h
  · cases h
  · next n => exact ⟨n, h⟩
mutual
theorem Rp.lf {t : Option Bx} {F : Hp} {p : Addr} {ws : List V} (hp : F p = some (.lst ws)) : ∀ {v : V} {d : D}, Rp t F v d → lfD d = true → Rp t (cut F p) v d
  | _, _, .non, _ => .non
  | _, _, .bl b, _ => .bl b
  | _, _, .it i, _ => .it i
  | _, _, .st s, _ => .st s
  | _, _, .tp e r, h => .tp (by rw [cut_ne fun z => by rw [z, hp] at e; cases e]; exact e) (RpL.lf hp r (by simpa only [lfD] using h))
  | _, _, .ls e r, h => by simp only [lfD] at h; cases h
  | _, _, .dc e r, h => .dc (by rw [cut_ne fun z => by rw [z, hp] at e; cases e]; exact e) (RpK.lf hp r (by simpa only [lfD] using h))
  | _, _, .bx e p, _ => .bx e p
theorem RpL.lf {t : Option Bx} {F : Hp} {p : Addr} {ws : List V} (hp : F p = some (.lst ws)) : ∀ {v : List V} {d : List D}, RpL t F v d → lfL d = true → RpL t (cut F p) v d
  | _, _, .nil, _ => .nil
  | _, _, .cons r s, h => by
    simp only [lfL, Bool.and_eq_true] at h
    exact .cons (Rp.lf hp r h.1) (RpL.lf hp s h.2)
theorem RpK.lf {t : Option Bx} {F : Hp} {p : Addr} {ws : List V} (hp : F p = some (.lst ws)) : ∀ {v : List (Key × V)} {d : List (Key × D)}, RpK t F v d → lfK d = true → RpK t (cut F p) v d
  | _, _, .nil, _ => .nil
  | _, _, .cons r s, h => by
    simp only [lfK, Bool.and_eq_true] at h
    exact .cons (Rp.lf hp r h.1) (RpK.lf hp s h.2)
end
def Sta.with (S : Sta) (p : Addr) (vs : List V) : Sta := ⟨S.bx, upd S.F p (.lst vs)⟩
theorem frz_step {S : Sta} {H : Hp} {p : Addr} {vs : List V} (g : Good S H) (hp : H p = some (.lst vs)) (hf : S.F p = none) (hb : ¬ InB S.bx p) : Good (S.with p vs) H := good_frz g hp hb
theorem frz_le {S : Sta} {p : Addr} {vs : List V} (hf : S.F p = none) : Le S.bx S.F (S.with p vs).bx (S.with p vs).F := ⟨fun b o e => by
    have : b ≠ p := fun z => by rw [z, hf] at e; cases e
    show upd S.F p (.lst vs) b = _
    rw [upd_ne this]; exact e, fun _ e => e⟩
theorem thaw {S S2 : Sta} {H H2 : Hp} {p : Addr} {vs : List V} (g : Good S H) (hp : H p = some (.lst vs)) (hf : S.F p = none) (hb : ¬ InB S.bx p) (s : Stp (S.with p vs) H S2 H2) (g2 : Good S2 H2) :
    Stp S H ⟨S2.bx, cut S2.F p⟩ H2 ∧ Good ⟨S2.bx, cut S2.F p⟩ H2 ∧ S2.F p = some (.lst vs) := by
  have ep : S2.F p = some (.lst vs) := s.ext _ _ (by show upd S.F p (.lst vs) p = _; exact upd_same)
  refine ⟨⟨fun b o e => ?_, fun b o e => ?_, s.box, s.keep⟩, ⟨fun b o e => g2.fz b o (cut_some e).2, g2.bx, fun b hb => ?_⟩, ep⟩
  · have n : b ≠ p := fun z => by rw [z, hf] at e; cases e
    show cut S2.F p b = _
    rw [cut_ne n]
    exact s.ext b o ((frz_le hf).f b o e)
  · obtain ⟨n, e⟩ := cut_some e
    rcases s.new b o e with z | z
    · have z' : upd S.F p (.lst vs) b = some o := z
      rw [upd_ne n] at z'
      exact .inl z'
    · exact .inr z
  · show cut S2.F p b = none
    unfold cut
    split
    · rfl
    · exact g2.nb b hb
theorem Rel.lend {Z : Hp} {S : Sta} {H : Hp} {σ : L2.St} {env : Env'} (r : Rel Z S H σ env) {i : Nat} {xs : List D} (e : env[i]? = some (.own xs)) :
    ∃ p vs, σ[i]? = some (some (.ref p)) ∧ H p = some (.lst vs) ∧ S.F p = none ∧ ¬ InB S.bx p ∧ Z p = none ∧ RpL S.bx S.F vs xs ∧ (∀ j ys, j ≠ i → env[j]? = some (.own ys) → ∀ a, σ[j]? = some (some (.ref a)) → a ≠ p) ∧
      Rel Z (S.with p vs) H σ (env.set i (.v (.ls xs))) := by
  obtain ⟨p, vs, e1, e2, e3, e4, e5, e6⟩ := r.at_ i _ e
  have other : ∀ j ys, j ≠ i → env[j]? = some (.own ys) → ∀ a, σ[j]? = some (some (.ref a)) → a ≠ p := fun j ys hj ej a ea z => by
    subst z
    exact r.sep i j xs ys a (Ne.symm hj) e ej e1 ea
  refine ⟨p, vs, e1, e2, e3, e4, e5, e6, other, ⟨?_, fun j s ej => ?_, fun j k ys zs a hjk e7 e8 h1 => ?_⟩⟩
  · rw [List.length_set]; exact r.len
  · by_cases hj : j = i
    · subst hj
      have hl : j < env.length := (List.getElem?_eq_some_iff.mp e).1
      rw [List.getElem?_set_self hl] at ej
      cases ej
      exact ⟨_, e1, .ls (by show upd S.F p (.lst vs) p = _; exact upd_same) (e6.le (frz_le e3))⟩
    · rw [List.getElem?_set_ne (Ne.symm hj)] at ej
      have q := r.at_ j s ej
      cases s with
      | no => trivial
      | v d => obtain ⟨x, q1, q2⟩ := q; exact ⟨x, q1, q2.le (frz_le e3)⟩
      | xn a' dx x => exact ⟨q.1, q.2.more rfl (frz_le e3) fun _ _ e => e⟩
      | own ds =>
        obtain ⟨a, us, q1, q2, q3, q4, q5, q6⟩ := q
        have n : a ≠ p := other j ds hj ej a q1
        exact ⟨a, us, q1, q2, by show upd S.F p (.lst vs) a = none; rw [upd_ne n]; exact q3, q4, q5, q6.le (frz_le e3)⟩
  · have n1 : j ≠ i := fun z => by
      subst z
      have hl : j < env.length := (List.getElem?_eq_some_iff.mp e).1
      rw [List.getElem?_set_self hl] at e7; cases e7
    have n2 : k ≠ i := fun z => by
      subst z
      have hl : k < env.length := (List.getElem?_eq_some_iff.mp e).1
      rw [List.getElem?_set_self hl] at e8; cases e8
    rw [List.getElem?_set_ne (Ne.symm n1)] at e7
    rw [List.getElem?_set_ne (Ne.symm n2)] at e8
    exact r.sep j k ys zs a hjk e7 e8 h1
def lfX (x : Exn) : Prop := ∀ f ∈ x.fs, lfD f.2 = true
theorem XRep.lf {mg : Str → Option Value} {S : Sta} {H : Hp} {C : Value} {dx : Option Addr} {x : Exn} {p : Addr} {ws : List V} (hp : S.F p = some (.lst ws)) (h : XRep mg S H C dx x) (l : lfX x) : XRep mg ⟨S.bx, cut S.F p⟩ H C dx x := by
  obtain ⟨h1, h2⟩ := h
  refine ⟨h1, ?_⟩
  rcases h2 with h2 | ⟨d, fs, e1, e2, e4, e3⟩
  · exact .inl h2
  · refine .inr ⟨d, fs, e1, e2, e4, ?_⟩
    obtain ⟨c, xs⟩ := x
    have l' : ∀ f ∈ xs, lfD f.2 = true := l
    have e3' : Paired (fun (p : Str × V) (q : Str × D) => p.1 = q.1 ∧ Rp S.bx S.F p.2 q.2) fs xs := e3
    clear e1 e2 e4 h1 e3 l
    show Paired _ fs xs
    induction e3' with
    | nil => exact .nil
    | cons h t ih => exact .cons ⟨h.1, Rp.lf hp h.2 (l' _ (by simp))⟩ (ih fun f hf => l' f (List.mem_cons_of_mem _ hf))
theorem XLink.lend {mg : Str → Option Value} {S : Sta} {H : Hp} {Ed : EK} {E : XK} {p : Addr} {vs : List V} (l : XLink mg S H Ed E) (g : Good S H) (hp : H p = some (.lst vs)) (hf : S.F p = none) (hb : ¬ InB S.bx p) :
    XLink mg (S.with p vs) H (fun x => lfX x ∧ Ed x) E := fun C dx H' S' x s g' r h => by
  obtain ⟨a, b, c⟩ := thaw g hp hf hb s g'
  exact l C dx H' _ x a b (r.lf c h.1) h.2
section
variable {X : Cx} {E : XK} {pos : Pos} {e : Expr} {de : DT_} {db : DB_} {d : DS_} {k : Nat}
def dLend (i : Nat) (de : DT_) : DT_ := fun env Q E => match env[i]? with
  | some (.own xs) => de (env.set i (.v (.ls xs))) (fun y => lfD y = true ∧ Q y) (fun x => lfX x ∧ E x)
  | _ => de env Q E
theorem de_lend (i : Nat) (he : DE X E e de) : DE X E e (dLend i de) := by
  obtain ⟨t, p, q⟩ := he.run
  refine ⟨t, p, fun Z S H σ env Q Qd Ed g r l h k => ?_⟩
  unfold dLend at h
  split at h
  · next xs ei =>
    obtain ⟨a, vs, e1, e2, e3, e4, e5, e6, _, r'⟩ := r.lend ei
    refine q Z (S.with a vs) H σ _ Q _ _ (frz_step g e2 e3 e4) r' (l.lend g e2 e3 e4) h fun v H' S' x s' g' rp hx => ?_
    obtain ⟨s2, g2, ep⟩ := thaw g e2 e3 e4 s' g'
    exact k v H' _ x s2 g2 (Rp.lf ep rp hx.1) hx.2
  · exact q Z S H σ env Q Qd Ed g r l h k
def dbLend (i : Nat) (de : DB_) : DB_ := fun env Q E => match env[i]? with
  | some (.own xs) => de (env.set i (.v (.ls xs))) Q (fun x => lfX x ∧ E x)
  | _ => de env Q E
def dFrzS (i : Nat) (d : DS_) : DS_ := fun De env => match env[i]? with
  | some (.own xs) => d De (env.set i (.v (.ls xs)))
  | _ => d De env
theorem frz_at {B : Base} {S : Sta} {H : Hp} {a : Addr} {vs : List V} (at_ : At B S H) (e : H a = some (.lst vs)) (z : B.H0 a = none) (f : S.F a = none) (b : ¬ InB S.bx a) : At B ⟨S.bx, upd S.F a (.lst vs)⟩ H := by
  have le := frz_le (vs := vs) f
  refine ⟨good_frz at_.g e b, ⟨fun c o ec => le.f c o (at_.p.ext c o ec), fun c o ec => ?_, at_.p.box, at_.p.keep⟩, at_.f.trans le⟩
  by_cases hz : c = a
  · rw [hz]; exact .inr z
  · have e' : upd S.F a (.lst vs) c = some o := ec
    rw [upd_ne hz] at e'
    exact at_.p.new c o e'
theorem ds_frz (i : Nat) {st : Stmt} (h : DS X E st d) : DS X E st (dFrzS i d) := by
  obtain ⟨t, p, q⟩ := h.run
  refine ⟨t, p, fun B De Dn l S σ env H a r h => ?_⟩
  unfold dFrzS at h
  split at h
  · next xs ei =>
    obtain ⟨b, vs, e1, e2, e3, e4, e5, e6, _, r'⟩ := r.lend ei
    exact q B De Dn l _ σ _ H (frz_at a e2 e5 e3 e4) r' h
  · exact q B De Dn l S σ env H a r h
def dSetIx (i : Nat) (di de : DT_) : DS_ := fun De env => match env[i]? with
  | some (.own xs) => de env (fun y => di env (fun z => match z with
    | .it k => (match ixN xs.length k with | some j => De.nx (env.set i (.own (xs.set j y))) | none => False)
    | _ => False) De.ex) De.ex
  | _ => False
def dAugIx (i : Nat) (f : Int → Int → Int) (di de : DT_) : DS_ := fun De env => match env[i]? with
  | some (.own xs) => di env (fun z => match z with
    | .it k => (match ixN xs.length k with
      | some j => (match xs[j]? with
        | some (.it n) => de env (fun y => match y with | .it m => De.nx (env.set i (.own (xs.set j (.it (f n m))))) | _ => False) De.ex
        | _ => False)
      | none => False)
    | _ => False) De.ex
  | _ => False
def dParO (i j : Nat) (dn : DN_) (da : DT_) : DS_ := fun De env => dn env (fun xs => da env (fun y => De.nx ((env.set i (.own xs)).set j (.v y))) De.ex) De.ex
end
section
variable {dg : DG_} {tt : DB_} {te : DT_} {env : Env'} {Q : List D → Prop}
theorem lcD_of (f : D → Option D) : ∀ (xs acc : List D),
    (∀ x ∈ xs, ∀ (Y : D → Prop) (N : Prop), (∀ y, f x = some y → Y y) → (f x = none → N) → dg x env fun env1 => tt env1 (fun b => match b with | true => te env1 Y (fun _ => False) | false => N) (fun _ => False)) →
    acc.length + xs.length ≤ sizeLine → Q (acc ++ xs.filterMap f) → lcD dg tt te env (fun _ => False) Q xs acc
  | [], acc, _, _, h => by rw [List.filterMap_nil, List.append_nil] at h; exact h
  | x :: xs, acc, hs, hl, h => by
    show dg x env fun env1 => tt env1 (fun b => match b with | true => te env1 (fun y => acc.length < sizeLine ∧ lcD dg tt te env (fun _ => False) Q xs (acc ++ [y])) (fun _ => False) | false => lcD dg tt te env (fun _ => False) Q xs acc) (fun _ => False)
    have hl' : acc.length + (xs.length + 1) ≤ sizeLine := by simpa using hl
    refine hs x (by simp) _ _ (fun y ey => ⟨by omega, ?_⟩) (fun en => ?_)
    · refine lcD_of f xs (acc ++ [y]) (fun z hz => hs z (List.mem_cons_of_mem _ hz)) (by simp; omega) ?_
      rw [List.filterMap_cons, ey] at h
      simpa using h
    · refine lcD_of f xs acc (fun z hz => hs z (List.mem_cons_of_mem _ hz)) (by omega) ?_
      rw [List.filterMap_cons, en] at h
      simpa using h
inductive All2 (R : Nat → D → D → Prop) : Nat → List D → List D → Prop where
  | nil {i : Nat} : All2 R i [] []
  | cons {i : Nat} {x y : D} {xs ys : List D} : R i x y → All2 R (i + 1) xs ys → All2 R i (x :: xs) (y :: ys)
theorem All2.length {R : Nat → D → D → Prop} : ∀ {i : Nat} {xs ys : List D}, All2 R i xs ys → ys.length = xs.length
  | _, _, _, .nil => rfl
  | _, _, _, .cons _ t => by rw [List.length_cons, List.length_cons, t.length]
theorem All2.mem {R : Nat → D → D → Prop} : ∀ {i : Nat} {xs ys : List D}, All2 R i xs ys → ∀ y ∈ ys, ∃ j x, R j x y
  | _, _, _, .nil, y, h => by cases h
  | _, _, _, .cons r t, y, h => by
    rcases List.mem_cons.mp h with rfl | h
    · exact ⟨_, _, r⟩
    · exact t.mem y h
theorem lcD_rel (R : Nat → D → D → Prop) : ∀ (i : Nat) (xs acc : List D),
    (∀ (j : Nat) (x : D), xs[j]? = some x → ∀ (Y : D → Prop), (∀ y, R (i + j) x y → Y y) → dg x env fun env1 => te env1 Y (fun _ => False)) →
    acc.length + xs.length ≤ sizeLine → (∀ ys, All2 R i xs ys → Q (acc ++ ys)) → lcD dg dYes te env (fun _ => False) Q xs acc
  | i, [], acc, _, _, h => by have := h [] .nil; rw [List.append_nil] at this; exact this
  | i, x :: xs, acc, hs, hl, h => by
    show dg x env fun env1 => te env1 (fun y => acc.length < sizeLine ∧ lcD dg dYes te env (fun _ => False) Q xs (acc ++ [y])) (fun _ => False)
    have hl' : acc.length + (xs.length + 1) ≤ sizeLine := by simpa using hl
    refine hs 0 x rfl _ fun y r => ⟨by omega, ?_⟩
    refine lcD_rel R (i + 1) xs (acc ++ [y]) (fun j z hz Y hY => hs (j + 1) z hz Y fun w hw => hY w (by rw [Nat.add_right_comm, Nat.add_assoc]; exact hw)) (by simp; omega) fun ys hys => ?_
    have := h (y :: ys) (.cons r hys)
    simpa using this
theorem lcD_map (f : D → D) (xs : List D) (hs : ∀ x ∈ xs, ∀ (Y : D → Prop), Y (f x) → dg x env fun env1 => te env1 Y (fun _ => False)) (hl : xs.length ≤ sizeLine) (h : Q (xs.map f)) : lcD dg dYes te env (fun _ => False) Q xs [] := by
  refine lcD_rel (fun _ x y => y = f x) 0 xs [] (fun j x hx Y hY => hs x (List.mem_of_getElem? hx) Y (hY _ rfl)) (by simpa using hl) fun ys hys => ?_
  have key : ∀ {i : Nat} {xs ys : List D}, All2 (fun _ x y => y = f x) i xs ys → ys = xs.map f := fun {i xs ys} h => by
    induction h with
    | nil => rfl
    | cons r _ ih => rw [List.map_cons, r, ih]
  rw [List.nil_append, key hys]
  exact h
end
section
variable {dg : DG_} {db : DS_} {De : DEnds}
end
section
variable {X : Cx} {E : XK} {elt tg iter : Expr} {ifs : List Expr} {scope : Scope} {own : List (Str × Nat)} {pos : Pos} {vsg : List Nat} {dg : DG_} {tt : DB_} {te : DT_} {wi : TI}
theorem frz_new {S S' : Sta} {H H' : Hp} {p : Addr} {vs : List V} (s' : Stp S H S' H') (g' : Good S' H') (h0 : H p = none) (h1 : H' p = some (.lst vs)) (h2 : S'.F p = none) (h3 : ¬ InB S'.bx p) :
    Stp S H ⟨S'.bx, upd S'.F p (.lst vs)⟩ H' ∧ Good ⟨S'.bx, upd S'.F p (.lst vs)⟩ H' ∧ Le S'.bx S'.F S'.bx (upd S'.F p (.lst vs)) := by
  have le : Le S'.bx S'.F S'.bx (upd S'.F p (.lst vs)) := ⟨fun b o e => by
    have : b ≠ p := fun z => by rw [z, h2] at e; cases e
    rw [upd_ne this]; exact e, fun x e => e⟩
  refine ⟨⟨fun b o e => le.f b o (s'.ext b o e), fun b o e => ?_, s'.box, s'.keep⟩, good_frz g' h1 h3, le⟩
  by_cases z : b = p
  · rw [z]; exact .inr h0
  · have e' : upd S'.F p (.lst vs) b = some o := e
    rw [upd_ne z] at e'
    exact s'.new b o e'
def LcRaw (X : Cx) (st : Stmt) (i : Nat) (wi : TI) (dg : DG_) (tt : DB_) (te : DT_) (vs : List Nat) : Prop :=
    ∃ t, PS X st t ∧ ∀ (Dn : Ends) (Z : Hp) (S : Sta) (H : Hp) (σ : L2.St) (env : Env') (Qd : List D → Prop), Good S H → Rel Z S H σ env →
      (∀ R : It → Hp → Prop, (∀ J H' S' xs, Stp S H S' H' → Good S' H' → Wlk S'.bx S'.F J xs → lcD dg tt te (wipeD env vs) (fun _ => False) Qd xs [] → R J H') → wi σ H R) →
      (∀ p H' S' xs, Stp S H S' H' → Good S' H' → Rp S'.bx S'.F (.ref p) (.ls xs) → Qd xs → Dn.nx (σ.set i (some (.ref p))) H') → t Dn σ H
theorem lcN_raw (i : Nat) {y : Str} {py spos : Pos} (hc : X.calm = true) (hN : X.N.Nodup) (hi : PI X tg iter wi) (ok : BlkOk X.N X.env.scope scope own) (hv : ∀ i ∈ vsg, i ∈ own.map (·.2)) (hg : ∀ s H C cl fp, DG (BCx X scope s H C cl fp) tg vsg dg)
    (ht : ∀ s H C cl fp, DTs (BCx X scope s H C cl fp) E0 ifs tt) (he : ∀ s H C cl fp, DE (BCx X scope s H C cl fp) E0 elt te)
    (hsw : swapsWith (.ListComp elt [⟨tg, iter, ifs, 0⟩] scope pos) (some (.Name y py)) spos.line X.env = pure true) (hy : X.N[i]? = some y := by rfl) (hyl : X.env.scope.names.lookup y = some .local := by rfl) (hs : ∀ x, foldedSetIterable iter X.env x = pure x := by intro _; rfl) :
    LcRaw X (.Assign [.Name y py] (.ListComp elt [⟨tg, iter, ifs, 0⟩] scope pos) spos) i wi dg tt te (own.map (·.2)) := by
  obtain ⟨g, pg, sg⟩ := allG hg
  obtain ⟨t1, p1, s1⟩ := allT ht
  obtain ⟨t2, p2, s2⟩ := allE he
  refine ⟨_, ps_setLc hc hN hy hyl hsw hi ok pg p1 p2 hs, fun Dn Z S H σ env Qd gd r si k => ?_⟩
  refine lc_at (X := X) hv gd r si sg s1 s2 fun p H' S' vs xs st g' h0 h1 h2 h3 rr hq => ?_
  obtain ⟨a, b, c⟩ := frz_new st g' h0 h1 h2 h3
  exact k p H' _ xs a b (.ls (by show upd S'.F p (.lst vs) p = _; exact upd_same) (rr.le c)) hq
end
theorem plain_ints : ∀ ns : List Int, plainDL (ns.map D.it) = true
  | [] => rfl
  | n :: r => by simp only [List.map_cons, plainDL, plainD, plain_ints r, Bool.and_self]
theorem eq_ints_nil (ns : List Int) : eqD (.ls (ns.map D.it)) (.ls []) = decide (ns = []) := by
  cases ns with
  | nil => rfl
  | cons n r => rfl
theorem cmp_ints_nil (ns : List Int) : cmpOk (.ls (ns.map D.it)) (.ls []) := by
  refine ⟨?_, rfl, ?_⟩
  · simp only [plainD]; exact plain_ints ns
  · simp only [deep, deepL]
    omega
theorem lc_filt {dg : DG_} {tt : DB_} {te : DT_} {env : Env'} {Q : List D → Prop} (p : Int → Bool) (ns : List Int)
    (h : ∀ n ∈ ns, ∀ (Y : D → Prop) (N : Prop), (p n = true → Y (.it n)) → (p n = false → N) → dg (.it n) env fun env1 => tt env1 (fun b => match b with | true => te env1 Y (fun _ => False) | false => N) (fun _ => False))
    (hl : ns.length ≤ sizeLine) (k : Q ((ns.filter p).map D.it)) : lcD dg tt te env (fun _ => False) Q (ns.map D.it) [] := by
  have e : ∀ ns : List Int, (ns.map D.it).filterMap (fun x => match x with | .it n => if p n = true then some x else none | _ => none) = (ns.filter p).map D.it := by
    intro ns
    induction ns with
    | nil => rfl
    | cons n r ih =>
      rw [List.map_cons, List.filterMap_cons]
      by_cases hp : p n = true
      · rw [List.filter_cons_of_pos hp]
        simp only [hp, if_true, List.map_cons]
        exact congrArg _ ih
      · rw [List.filter_cons_of_neg hp]
        simp only [hp, if_false]
        exact ih
  refine lcD_of (fun x => match x with | .it n => if p n = true then some x else none | _ => none) _ [] (fun x hx Y N h1 h2 => ?_) (by simpa using hl) ?_
  · obtain ⟨n, hn, rfl⟩ := List.mem_map.mp hx
    refine h n hn Y N (fun hp => h1 _ ?_) (fun hp => h2 ?_)
    · simp only [hp, if_true]
    · simp only [hp, Bool.false_eq_true, if_false]
  · rw [List.nil_append, e]; exact k
theorem okL_iff : ∀ {xs : List D}, okL xs ↔ ∀ x ∈ xs, okD x
  | [] => by simp [okL]
  | x :: r => by
    simp only [okL, List.mem_cons, forall_eq_or_imp]
    rw [okL_iff]
theorem massL_append : ∀ xs ys : List D, massL (xs ++ ys) = massL xs + massL ys
  | [], _ => by simp [massL]
  | x :: r, ys => by simp only [List.cons_append, massL, massL_append r ys]; omega
theorem deepL_append : ∀ xs ys : List D, deepL (xs ++ ys) = max (deepL xs) (deepL ys)
  | [], _ => by simp [deepL]
  | x :: r, ys => by simp only [List.cons_append, deepL, deepL_append r ys]; omega
theorem massL_take : ∀ (n : Nat) (xs : List D), massL (xs.take n) ≤ massL xs
  | 0, _ => by simp [massL]
  | _ + 1, [] => by simp [massL]
  | n + 1, x :: r => by simp only [List.take_succ_cons, massL]; have := massL_take n r; omega
theorem massL_drop : ∀ (n : Nat) (xs : List D), massL (xs.drop n) ≤ massL xs
  | 0, _ => by simp
  | _ + 1, [] => by simp [massL]
  | n + 1, x :: r => by simp only [List.drop_succ_cons, massL]; have := massL_drop n r; omega
theorem deepL_take : ∀ (n : Nat) (xs : List D), deepL (xs.take n) ≤ deepL xs
  | 0, _ => by simp [deepL]
  | _ + 1, [] => by simp [deepL]
  | n + 1, x :: r => by simp only [List.take_succ_cons, deepL]; have := deepL_take n r; omega
theorem deepL_drop : ∀ (n : Nat) (xs : List D), deepL (xs.drop n) ≤ deepL xs
  | 0, _ => by simp
  | _ + 1, [] => by simp [deepL]
  | n + 1, x :: r => by simp only [List.drop_succ_cons, deepL]; have := deepL_drop n r; omega
theorem massL_rev : ∀ xs : List D, massL xs.reverse = massL xs
  | [] => rfl
  | x :: r => by rw [List.reverse_cons, massL_append, massL_rev r]; simp only [massL]; omega
theorem deepL_rev : ∀ xs : List D, deepL xs.reverse = deepL xs
  | [] => rfl
  | x :: r => by rw [List.reverse_cons, deepL_append, deepL_rev r]; simp only [deepL]; omega
theorem massL_rep (xs : List D) : ∀ n : Nat, massL (List.replicate n xs).flatten = n * massL xs
  | 0 => by simp [massL]
  | n + 1 => by rw [List.replicate_succ, List.flatten_cons, massL_append, massL_rep xs n, Nat.succ_mul]; omega
theorem deepL_rep (xs : List D) : ∀ n : Nat, deepL (List.replicate n xs).flatten ≤ deepL xs
  | 0 => by simp [deepL]
  | n + 1 => by rw [List.replicate_succ, List.flatten_cons, deepL_append]; have := deepL_rep xs n; omega
theorem mass_mem : ∀ {xs : List D} {x : D}, x ∈ xs → mass x ≤ massL xs
  | y :: r, x, h => by
    simp only [massL]
    rcases List.mem_cons.mp h with rfl | h
    · omega
    · have := mass_mem h; omega
theorem deep_mem : ∀ {xs : List D} {x : D}, x ∈ xs → deep x ≤ deepL xs
  | y :: r, x, h => by
    simp only [deepL]
    rcases List.mem_cons.mp h with rfl | h
    · omega
    · have := deep_mem h; omega
theorem massL_le {c : Nat} : ∀ {xs : List D}, (∀ x ∈ xs, mass x ≤ c) → massL xs ≤ xs.length * c
  | [], _ => by simp [massL]
  | x :: r, h => by
    simp only [massL, List.length_cons, Nat.succ_mul]
    have := h x (by simp)
    have := massL_le (xs := r) fun y hy => h y (List.mem_cons_of_mem _ hy)
    omega
theorem deepL_le {c : Nat} : ∀ {xs : List D}, (∀ x ∈ xs, deep x ≤ c) → deepL xs ≤ c
  | [], _ => by simp [deepL]
  | x :: r, h => by
    simp only [deepL]
    have := h x (by simp)
    have := deepL_le (xs := r) fun y hy => h y (List.mem_cons_of_mem _ hy)
    omega
structure SmL (m h : Nat) (xs : List D) : Prop where
  ok : okL xs
  m : massL xs ≤ m
  h : deepL xs ≤ h
structure Sm (m h : Nat) (d : D) : Prop where
  ok : okD d
  m : mass d ≤ m
  h : deep d ≤ h
section
variable {m m' h h' : Nat} {xs ys : List D} {x : D}
theorem SmL.nil : SmL m h [] := ⟨by simp [okL], by simp [massL], by simp [deepL]⟩
theorem SmL.cons (a : Sm m h x) (b : SmL m' h xs) : SmL (m + m') h (x :: xs) := ⟨by simp only [okL]; exact ⟨a.ok, b.ok⟩, by simp only [massL]; have := a.m; have := b.m; omega, by simp only [deepL]; have := a.h; have := b.h; omega⟩
theorem SmL.one (a : Sm m h x) : SmL m h [x] := (SmL.cons a (SmL.nil (m := 0)))
theorem SmL.app (a : SmL m h xs) (b : SmL m' h ys) : SmL (m + m') h (xs ++ ys) :=
  ⟨okL_iff.mpr fun x hx => (List.mem_append.mp hx).elim (okL_iff.mp a.ok x) (okL_iff.mp b.ok x), by rw [massL_append]; have := a.m; have := b.m; omega, by rw [deepL_append]; have := a.h; have := b.h; omega⟩
theorem SmL.le (a : SmL m h xs) (e1 : m ≤ m') (e2 : h ≤ h') : SmL m' h' xs := ⟨a.ok, Nat.le_trans a.m e1, Nat.le_trans a.h e2⟩
theorem Sm.le (a : Sm m h x) (e1 : m ≤ m') (e2 : h ≤ h') : Sm m' h' x := ⟨a.ok, Nat.le_trans a.m e1, Nat.le_trans a.h e2⟩
theorem SmL.take (n : Nat) (a : SmL m h xs) : SmL m h (xs.take n) := ⟨okL_iff.mpr fun x hx => okL_iff.mp a.ok x (List.mem_of_mem_take hx), Nat.le_trans (massL_take n xs) a.m, Nat.le_trans (deepL_take n xs) a.h⟩
theorem SmL.drop (n : Nat) (a : SmL m h xs) : SmL m h (xs.drop n) := ⟨okL_iff.mpr fun x hx => okL_iff.mp a.ok x (List.mem_of_mem_drop hx), Nat.le_trans (massL_drop n xs) a.m, Nat.le_trans (deepL_drop n xs) a.h⟩
theorem SmL.rev (a : SmL m h xs) : SmL m h xs.reverse := ⟨okL_iff.mpr fun x hx => okL_iff.mp a.ok x (List.mem_reverse.mp hx), by rw [massL_rev]; exact a.m, by rw [deepL_rev]; exact a.h⟩
theorem SmL.rep (n : Nat) (a : SmL m h xs) : SmL (n * m) h (List.replicate n xs).flatten := ⟨okL_iff.mpr fun x hx => by
    obtain ⟨l, hl, hx⟩ := List.mem_flatten.mp hx
    rw [(List.mem_replicate.mp hl).2] at hx
    exact okL_iff.mp a.ok x hx, by rw [massL_rep]; exact Nat.mul_le_mul_left _ a.m, Nat.le_trans (deepL_rep xs n) a.h⟩
theorem SmL.cut (lo hi : Option Int) (a : SmL m h xs) : SmL m h (cutD xs lo hi) := (a.drop _).take _
theorem SmL.mem (a : SmL m h xs) (hx : x ∈ xs) : Sm m h x := ⟨okL_iff.mp a.ok x hx, Nat.le_trans (mass_mem hx) a.m, Nat.le_trans (deep_mem hx) a.h⟩
theorem SmL.tp (a : SmL m h xs) : Sm (1 + m) (h + 1) (.tp xs) := ⟨by simp only [okD]; exact a.ok, by simp only [mass]; have := a.m; omega, by simp only [deep]; have := a.h; omega⟩
theorem SmL.ls (a : SmL m h xs) : Sm (1 + m) (h + 1) (.ls xs) := ⟨by simp only [okD]; exact a.ok, by simp only [mass]; have := a.m; omega, by simp only [deep]; have := a.h; omega⟩
theorem SmL.of (n : Nat) (hl : xs.length ≤ n) (a : ∀ x ∈ xs, Sm m h x) : SmL (n * m) h xs := ⟨okL_iff.mpr fun x hx => (a x hx).ok, Nat.le_trans (massL_le fun x hx => (a x hx).m) (Nat.mul_le_mul_right _ hl), deepL_le fun x hx => (a x hx).h⟩
theorem Sm.it {i : Int} (h1 : -(2 ^ 256) < i) (h2 : i < 2 ^ 256) : Sm 1 h (.it i) := ⟨by simp only [okD]; exact ⟨h1, h2⟩, by simp [mass], by simp [deep]⟩
theorem Sm.bl {b : Bool} : Sm 1 h (.bl b) := ⟨by simp only [okD], by simp [mass], by simp [deep]⟩
theorem Sm.non : Sm 1 h .non := ⟨by simp only [okD], by simp [mass], by simp [deep]⟩
theorem Sm.fit (a : Sm m h x) (h1 : m ≤ 50000) (h2 : h ≤ 150) : Fit x := ⟨a.ok, Nat.le_trans a.m h1, Nat.le_trans a.h h2⟩
end
def okIntB (i : Int) : Bool := decide (-(2 ^ 256) < i) && decide (i < 2 ^ 256)
def okStrB (s : Str) : Bool := s.cps.toList.all fun c => decide (c < 16 ^ 8)
def okKeyB : Key → Bool | .inl i => okIntB i | .inr s => okStrB s
mutual
def okB : D → Bool
  | .non => true
  | .bl _ => true
  | .it i => okIntB i
  | .st s => okStrB s
  | .tp xs => okBL xs
  | .ls xs => okBL xs
  | .dc kvs => okBK kvs
  | .bx _ _ => false
def okBL : List D → Bool
  | [] => true
  | x :: r => okB x && okBL r
def okBK : List (Key × D) → Bool
  | [] => true
  | (k, v) :: r => okKeyB k && (okB v && okBK r)
end
theorem okIntB_ok {i : Int} (h : okIntB i = true) : okInt i := by
  simp only [okIntB, Bool.and_eq_true, decide_eq_true_eq] at h
  exact h
theorem okStrB_ok {s : Str} (h : okStrB s = true) : okStr s := by
  simp only [okStrB, List.all_eq_true, decide_eq_true_eq] at h
  exact h
theorem okKeyB_ok {k : Key} (h : okKeyB k = true) : okKey k := by
  cases k with
  | inl i => exact okIntB_ok h
  | inr s => exact okStrB_ok h
mutual
theorem okB_ok : ∀ {d : D}, okB d = true → okD d
  | .non, _ => by simp only [okD]
  | .bl _, _ => by simp only [okD]
  | .it i, h => by simp only [okD]; simp only [okB] at h; exact okIntB_ok h
  | .st s, h => by simp only [okD]; simp only [okB] at h; exact okStrB_ok h
  | .tp xs, h => by simp only [okD]; simp only [okB] at h; exact okBL_ok h
  | .ls xs, h => by simp only [okD]; simp only [okB] at h; exact okBL_ok h
  | .dc kvs, h => by simp only [okD]; simp only [okB] at h; exact okBK_ok h
  | .bx _ _, h => by simp only [okB] at h; cases h
theorem okBL_ok : ∀ {xs : List D}, okBL xs = true → okL xs
  | [], _ => by simp only [okL]
  | x :: r, h => by
    simp only [okBL, Bool.and_eq_true] at h
    simp only [okL]; exact ⟨okB_ok h.1, okBL_ok h.2⟩
theorem okBK_ok : ∀ {xs : List (Key × D)}, okBK xs = true → okK xs
  | [], _ => by simp only [okK]
  | (k, v) :: r, h => by
    simp only [okBK, Bool.and_eq_true] at h
    simp only [okK]; exact ⟨okKeyB_ok h.1, okB_ok h.2.1, okBK_ok h.2.2⟩
end
theorem sm_dec {m h : Nat} {d : D} (e : (okB d && decide (mass d ≤ m) && decide (deep d ≤ h)) = true) : Sm m h d := by
  simp only [Bool.and_eq_true, decide_eq_true_eq] at e
  exact ⟨okB_ok e.1.1, e.1.2, e.2⟩
theorem szl0 : szOk ([] : List D).length := by show 0 ≤ sizeLine; decide
theorem szl1 {a : D} : szOk ([a] : List D).length := by show 1 ≤ sizeLine; decide
theorem szl2 {a b : D} : szOk ([a, b] : List D).length := by show 2 ≤ sizeLine; decide
theorem szl3 {a b c : D} : szOk ([a, b, c] : List D).length := by show 3 ≤ sizeLine; decide
theorem szl4 {a b c d : D} : szOk ([a, b, c, d] : List D).length := by show 4 ≤ sizeLine; decide
theorem szl5 {a b c d e : D} : szOk ([a, b, c, d, e] : List D).length := by show 5 ≤ sizeLine; decide
theorem szl6 {a b c d e f : D} : szOk ([a, b, c, d, e, f] : List D).length := by show 6 ≤ sizeLine; decide
theorem szl7 {a b c d e f g : D} : szOk ([a, b, c, d, e, f, g] : List D).length := by show 7 ≤ sizeLine; decide
theorem szl8 {a b c d e f g h : D} : szOk ([a, b, c, d, e, f, g, h] : List D).length := by show 8 ≤ sizeLine; decide
theorem cx_no {P : Program} {w : World} {o : List Env} {H : Hp} {s s' : Shared} {e : Value} (h : L2.CX P w o H s (fun _ _ _ => False) e s') : False := by
  obtain ⟨_, _, _, _, _, _, _, _, _, _, _, _, z⟩ := h
  exact z
theorem ends_call {P : Program} {w : World} {K : PySem.W.Frag} {mg mb : Str → Option Value} {k : Nat} {fa a : Addr} {fd : FuncData} {x : Str} {sp : Sp} {t : Shared} {vs : List Value} {ns : List Int}
    (KX : K.In t.heap) (nm : t.heap.Ns mainGlobals mg) (nb : t.heap.Ns builtinsNs mb) (bb : ∀ y : Str, y ≠ "__name__" → mb y = bootBuiltins y) (lim : t.heap.NoLimit) (sys : ∃ mm, t.heap.Ns sysModules mm) (gn : t.gens = #[])
    (ga : t.heap.get? a = some { cls := .type "list", data := .seq vs.toArray }) (hi : IntsAre vs ns) (hz : ns.length ≤ sizeLine) (hr : Room k callerA)
    (F : ∀ base : Heap, K.In base → base.Ns mainGlobals mg → (∃ o, base.get? sysModules = some o) → HFn P w K mg base k fa fd [x] sp) (bind : ∀ (s : Shared) (u : Value), BindsTo s fd ⟨[u], []⟩ [(x, u)])
    (law : ∀ H : Hp, SqL K H a (ns.map V.int) → sp [.ref a] H (fun v _ => v = .bl true) fun _ _ _ => False) :
    codeAny (model P w) callerA (.call (.ref fa) ⟨[.ref a], []⟩) (fun r s' => r = .ok (.ret (.bool true)) ∧ OldK t.heap s'.heap ∧ s'.os = t.os ∧ AllBare s'.gens) t := by
  have rv : Vals (ns.map V.int) vs := vals_ints hi
  have main : ∀ H : Hp, SqL K H a (ns.map V.int) → HOk P w H t.heap → (∀ b u, H b = some u → b = a ∧ ∃ o ys, u = .frz o (.lst ys)) → (∀ u, H a = some u → K.lookup a = none) →
      codeAny (model P w) callerA (.call (.ref fa) ⟨[.ref a], []⟩) (fun r s' => r = .ok (.ret (.bool true)) ∧ OldK t.heap s'.heap ∧ s'.os = t.os ∧ AllBare s'.gens) t := by
    intro H hS hok only noK
    have seen : ∀ {b : Addr} {o : Obj}, t.heap.get? b = some o → H b = none → (hidT t.heap H).get? b = some o := fun {b o} e n => hidT_get e n
    have isDict : ∀ {b : Addr} {o : Obj} {es : Array DictEntry} {ep : Nat}, t.heap.get? b = some o → o.data = .dict es ep → H b = none := fun {b o es ep} e d => none_of_keep fun u hu => by
      obtain ⟨rfl, _⟩ := only b u hu
      rw [ga] at e; cases e
      simp only [reduceCtorEq] at d
    have ns' : ∀ {b : Addr} {m : Str → Option Value}, t.heap.Ns b m → (hidT t.heap H).Ns b m := fun {b m} ⟨o, es, ep, e, d, r⟩ => ⟨o, es, ep, seen e (isDict e d), d, r⟩
    have kb : K.In (hidT t.heap H) := fun b o e => seen (KX b o e) (none_of_keep fun u hu => by
      obtain ⟨rfl, _⟩ := only b u hu
      rw [noK u hu] at e; cases e)
    have md : Mod K mg (hidT t.heap H) := ⟨kb, ns' nm, ⟨mb, ns' nb, bb⟩, by obtain ⟨mc, l1, l2⟩ := lim; exact ⟨mc, ns' l1, l2⟩⟩
    have sy : ∃ o, (hidT t.heap H).get? sysModules = some o := by
      obtain ⟨mm, q⟩ := sys
      obtain ⟨o, _, _, e, _⟩ := ns' q
      exact ⟨o, e⟩
    have en : Env0 P w K mg (hidT t.heap H) callerA [] t H := ⟨rfl, md, fun b o e => of_hidT e, Nat.le_of_eq (hidT_size _ _), trivial, fun b hb => (by simp [frs] at hb), hok, .of_eq gn⟩
    refine codeAny_mono ((F _ kb (ns' nm) sy).run callerA [] t H ⟨[.ref a], []⟩ [.ref a] [.ref a] _ _ hr rfl en (bind t (.ref a)) (.cons rfl .nil) (law H hS)) fun r s' h => ?_
    match r, h with
    | .error e, h => exact (cx_no h).elim
    | .ok .next, h => exact False.elim h
    | .ok .brk, h => exact False.elim h
    | .ok .cont, h => exact False.elim h
    | .ok (.ret u), h =>
      obtain ⟨v, H', os, bare, un, hok', ru, ev⟩ := h
      have ev' : v = .bl true := ev
      subst ev'
      have eu : u = Value.bool true := ru
      subst eu
      refine ⟨rfl, OldK.of_keep fun b o e => ?_, os, bare⟩
      cases hb : H b with
      | none => exact un.keep b o e hb (by simp [frs]) (by simp)
      | some u =>
        obtain ⟨rfl, ob, ys, rfl⟩ := only b u hb
        have z2 := un.frzs _ ob _ hb
        obtain ⟨p1, _⟩ := hok _ _ hb
        obtain ⟨p2, _⟩ := hok' _ _ z2
        rw [e] at p1; cases p1
        exact p2
  cases hk : K.lookup a with
  | some o =>
    have e := KX a o hk
    rw [ga] at e; cases e
    exact main (fun _ => none) (.inr ⟨_, vs.toArray, _, hk, rfl, rfl, rfl, by rw [List.size_toArray, hi.length]; exact hz, by simpa using rv⟩) (fun b u z => (by cases (show (none : Option HO) = some u from z))) (fun b u z => (by cases (show (none : Option HO) = some u from z))) fun u z => (by cases (show (none : Option HO) = some u from z))
  | none =>
    have at_ : ∀ b u, (fun b => if b = a then some (HO.frz { cls := .type "list", data := .seq vs.toArray } (.lst (ns.map V.int))) else none) b = some u → b = a ∧ u = .frz { cls := .type "list", data := .seq vs.toArray } (.lst (ns.map V.int)) := fun b u z => by
      by_cases hb : b = a
      · simp only [hb, if_true, Option.some.injEq] at z; exact ⟨hb, z.symm⟩
      · simp only [hb, if_false, reduceCtorEq] at z
    refine main (fun b => if b = a then some (.frz { cls := .type "list", data := .seq vs.toArray } (.lst (ns.map V.int))) else none) (.inl (.inr ⟨{ cls := .type "list", data := .seq vs.toArray }, if_pos rfl⟩)) (fun b u z => ?_) (fun b u z => ?_) fun u _ => hk
    · obtain ⟨rfl, rfl⟩ := at_ b u z
      exact ⟨ga, by rw [List.length_map]; exact hz, vs, _, rv, ga⟩
    · obtain ⟨rfl, rfl⟩ := at_ b u z
      exact ⟨rfl, _, _, rfl⟩
theorem walkD {l : PySem.W.OpenLaw} {n k : Nat} {q : Program} {loose : List Str} {XP : (Str → Option Value) → Heap → Prop} {YP : World → Heap → Prop} {d : DefRec} {K : Params → PySem.W.Frag} {sp : World → Sp} {x : Str}
    (hn : l.most = some n) (hz : n ≤ sizeLine) (hd : d.params.defaults = []) (hr : Room k callerA) (hY : ∀ (w : World) (h : Heap), YP w h → (K w.params).In h) (hq : importsNone q = true)
    (F : ∀ (w : World) (mg : Str → Option Value) (fa : Addr) (h : Heap), (K w.params).In h → h.Ns mainGlobals mg → mg d.name = some (.ref fa) →
      ∃ fd : FuncData, (∀ (s : Shared) (u : Value), BindsTo s fd ⟨[u], []⟩ [(x, u)]) ∧ ∀ base : Heap, (K w.params).In base → base.Ns mainGlobals mg → (∃ o, base.get? sysModules = some o) → HFn l.prog w (K w.params) mg base k fa fd [x] (sp w))
    (law : ∀ (w : World) (H : Hp) (a : Addr) (ns : List Int), ns.length ≤ n → SqL (K w.params) H a (ns.map V.int) → sp w [.ref a] H (fun v _ => v = .bl true) fun _ _ _ => False) :
    PySem.W.WalkO q loose XP YP l.row.toRowW d [] (fun f vs => PySem.call f vs) := by
  refine Att.attach_call hn hd fun w s₀ t mg mb fa o pm cd doc a vs ns G Y ho hd' hcd hmg hobj hints hlen hg => ?_
  obtain ⟨fd, hb, hF⟩ := F w mg fa _ (hY w _ Y) G.T.g hmg
  obtain ⟨mm, h1, _⟩ := (G.T.seer hq).mods
  exact ends_call (hY w _ Y) G.T.g G.T.b G.T.builtins G.T.nolimit ⟨mm, h1⟩ hg hobj hints (Nat.le_trans hlen hz) hr hF hb fun H hS => law w H a ns hlen hS
section
variable {X : Cx} {E : XK} {a b c : Expr}
end
section
variable {X : Cx} {E : XK} {k : Nat} {pos : Pos}
theorem ints_rp {t : Option Bx} {F : Hp} : ∀ {vs : List V} {ns : List Int}, RpL t F vs (ns.map D.it) → vs = ns.map V.int
  | _, [], h => by cases h; rfl
  | _, n :: r, h => by
    cases h with
    | cons h1 h2 => cases h1; rw [ints_rp h2]; rfl
def oStr (xs : List D) (Q : DK) : Prop := match xs with | [.it i] => i.natAbs.log2 < 1920 ∧ Q (.st (toString i)) | _ => False
theorem od_str (S : Sta) : CallD S (fun xs H Q => ∃ i, xs = [.int i] ∧ i.natAbs.log2 < 1920 ∧ Q (.str (toString i)) H) oStr := fun H vs ds Q Qd g r h k => by
  unfold oStr at h
  split at h
  · cases r with
    | cons r1 r2 =>
      cases r1; cases r2
      exact ⟨_, rfl, h.1, k.now g (.st _) h.2⟩
  · exact h.elim
theorem boot_str : bootBuiltins "str" = some (.type "str") := by decide +kernel
theorem de_str1 {u : DA_} {e : Expr} {p : Pos} (hg : Gl X "str") (hm : X.mg "str" = none) (ha : DA X E [e] u) (he : starEach [e] X.env = (false, eval e X.env) :: starEach [] X.env := by rfl) : DE X E (.Call (.Name "str" p) [e] [] pos) (dCB oStr u) :=
  de_callTy call_str_int od_str hg hm boot_str ha (by decide) (by decide) he rfl
end
section
variable {prog : Program} {w : World} {A : Around} {E : Value → Shared → Prop} {s : Shared} {l : Addr} {its : List Value} {ns : List Int} {Q : Value → Shared → Prop}
theorem sumT_raw (hh : A.handled = none) (hl : s.heap.IsTuple l its.toArray) (hi : IntsAre its ns)
    (h : ∀ h' tk t', (∀ b o, s.heap.get? b = some o → h'.get? b = some o) → Q (.int ns.sum t') { s with heap := h', toks := tk }) : wpAny (model prog w) A (call (.builtin "sum") [.ref l]) Q E s := by
  obtain ⟨xs, e⟩ := hi.allInts.items
  have hn : numsOf (intItems xs).toList = ns := by rw [← e]; exact hi.numsOf
  rw [nums_intItems] at hn
  rw [e] at hl
  have hlt : l < s.heap.objs.size := by obtain ⟨_, e, _⟩ := hl; exact Heap.lt_size e
  refine call_sum_walkG (wpAny_pyIter_tuple hl ?_)
  refine ⟨_, _, _, _, _, _, numAt xs, rfl, Walks.tuple (A := A.in1) hh _ l (Nat.ne_of_lt hlt) (intItems xs), ⟨⟨_, Heap.get?_push_size _ rfl, rfl, rfl⟩, hl.push _⟩, fun b hb => ?_, (fun _ _ => intItems_at), fun h' tk t' hk => ?_⟩
  · show b < (s.heap.push _).objs.size
    rw [Heap.size_push]
    rcases List.mem_cons.mp hb with rfl | hb
    · exact Nat.lt_succ_self _
    · rcases List.mem_cons.mp hb with rfl | hb
      · exact Nat.lt_succ_of_lt hlt
      · cases hb
  · have := h h' tk t' fun b o eb => hk b o (fun hb => by
      rw [List.mem_singleton] at hb
      subst hb
      exact absurd (Heap.lt_size eb) (Nat.lt_irrefl _)) (Heap.get?_push_of_some _ eb)
    have ep : preSum (numAt xs) (intItems xs).size = ns.sum := by
      rw [show (intItems xs).size = xs.size by simp [intItems], preSum_eq, List.take_of_length_le (by simp), hn]
    rw [ep]; exact this
end
section
variable {X : Cx} {E : XK} {pos : Pos}
def rSumT (K : PySem.W.Frag) : List V → Hp → VK → Prop := fun vs H Q => ∃ (a : Addr) (ns : List Int), vs = [V.ref a] ∧ SqT K H a (ns.map V.int) ∧ Q (.int ns.sum) H
theorem cr_sumT (hc : X.calm = true) : CallR X (.builtin "sum") (rSumT X.K) := by
  intro pins s σ H vs us Q I r h
  obtain ⟨a, ns, rfl, hs, q⟩ := h
  obtain ⟨its, rv, hl, _⟩ := I.tuple hs
  rw [Vals.ref1 r]
  exact sumT_raw (I.ok.hd hc) hl rv.ints fun h' tk t' hk => ⟨.int _, H, I.kept hk, ⟨_, rfl⟩, q⟩
theorem cr_sumA (hc : X.calm = true) : CallR X (.builtin "sum") (fun vs H Q => rSum X.K vs H Q ∨ rSumT X.K vs H Q) := by
  intro pins s σ H vs us Q I r h
  rcases h with h | h
  · exact cr_sum hc pins s σ H vs us Q I r h
  · exact cr_sumT hc pins s σ H vs us Q I r h
def oSumA (xs : List D) (Q : DK) : Prop := match xs with | [.tp ys] => ∃ ns, intsD ys = some ns ∧ Q (.it ns.sum) | [.ls ys] => ∃ ns, intsD ys = some ns ∧ Q (.it ns.sum) | _ => False
theorem de_sumA {u : DA_} {e : Expr} {p : Pos} (hc : X.calm = true) (hg : Gl X "sum") (hm : X.mg "sum" = none) (ha : DA X E [e] u) (he : starEach [e] X.env = (false, eval e X.env) :: starEach [] X.env := by rfl) : DE X E (.Call (.Name "sum" p) [e] [] pos) (dCB oSumA u) := by
  refine de_callB (cr_sumA hc) (fun S => ?_) hg hm (by decide +kernel) ha (by decide) (by decide) he rfl
  intro H vs ds Q Qd g r h k
  unfold oSumA at h
  split at h
  · obtain ⟨ns, en, h⟩ := h
    have := intsD_eq en
    subst this
    cases r with
    | cons r1 r2 =>
      cases r2
      cases r1 with
      | tp e rr =>
        have := ints_rp rr
        subst this
        exact .inr ⟨_, ns, rfl, SqT.of (g.fz _ _ e), k.now g (.it _) h⟩
  · obtain ⟨ns, en, h⟩ := h
    have := intsD_eq en
    subst this
    cases r with
    | cons r1 r2 =>
      cases r2
      cases r1 with
      | ls e rr =>
        have := ints_rp rr
        subst this
        exact .inl ⟨_, ns, rfl, SqL.of (g.fz _ _ e), k.now g (.it _) h⟩
  · exact h.elim
end
section
variable {X : Cx} {E : XK} {k : Nat} {pos : Pos}
def dParP (i j : Nat) (da : DT_) (dn : DN_) : DS_ := fun De env => da env (fun x => dn env (fun ys => De.nx ((env.set i (.v x)).set j (.own ys))) De.ex) De.ex
theorem ds_parP {i j : Nat} {x y : Str} {a b : Expr} {da : DT_} {dn : DN_} {px py pt : Pos} {kt k2 pt2} (hc : X.calm = true) (hN : X.N.Nodup) (ha : DE X E a da) (hb : DN X E b dn)
    (hw : swappedStores [.Tuple [.Name x px, .Name y py] kt pt] (.Tuple [a, b] k2 pt2) X.env = pure (some [x, y])) (hi : X.N[i]? = some x := by rfl) (hj : X.N[j]? = some y := by rfl) (hij : i ≠ j := by decide)
    (hx : X.env.scope.names.lookup x = some .local := by rfl) (hy : X.env.scope.names.lookup y = some .local := by rfl) (sa : starEach [a, b] X.env = (false, eval a X.env) :: starEach [b] X.env := by rfl) (sb : starEach [b] X.env = (false, eval b X.env) :: starEach [] X.env := by rfl)
    (hs : swapsWithSole [.Tuple [.Name x px, .Name y py] kt pt] (.Tuple [a, b] k2 pt2) pos.line X.env = pure false := by rfl) :
    DS X E (.Assign [.Tuple [.Name x px, .Name y py] kt pt] (.Tuple [a, b] k2 pt2) pos) (dParP i j da dn) := by
  obtain ⟨t1, p1, q1⟩ := ha.run
  obtain ⟨t2, p2, q2⟩ := hb.sem
  refine ⟨_, ps_par hc hN hi hj hij hx hy (pa_cons p1 (pa_cons p2 pa_nil sb) sa) hw hs, fun B De Dn l S σ env H at_ r h => ?_⟩
  refine q1 _ S H σ env _ _ _ at_.g r (l.xl at_) h fun v H1 S1 dx s1 g1 rv h1 => ?_
  have a1 := at_.step s1 g1
  have r1 := r.step s1
  refine q2 _ S1 H1 σ env _ _ _ g1 r1 (l.xl a1) h1 fun p H2 S2 vs ys s2 g2 n0 n1 n2 n3 rr h2 => ?_
  have a2 := a1.step s2 g2
  have rput := (r1.step s2).put (i := i) (rv.le s2.le)
  refine ⟨v, .ref p, rfl, l.nx S2 _ _ H2 a2 (rput.putOwn (a1.p.free a1.g n0) n1 n2 n3 (fun k zs ek ez => ?_) rr) h2⟩
  by_cases hk : k = i
  · subst hk
    have hl : k < env.length := by
      have := (List.getElem?_eq_some_iff.mp ek).1
      rwa [List.length_set] at this
    rw [List.getElem?_set_self hl] at ek; cases ek
  · rw [List.getElem?_set_ne (Ne.symm hk)] at ek ez
    obtain ⟨c, ws, u1, u2, _⟩ := r1.at_ k _ ek
    rw [ez] at u1; cases u1
    rw [n0] at u2; cases u2
end
section
variable {X : Cx} {E : XK} {pos : Pos} {a b c : Expr} {da db dc : DT_}
end
structure CalB (P : Program) (w : World) (K : PySem.W.Frag) (mg : Str → Option Value) (base : Heap) (k : Nat) (x : Str) (ps : List Str) (kw : Str) (sp : SpD) : Prop where
  ex : ∃ f fd, GFn P w K mg base k f fd (ps ++ [kw]) sp ∧ mg x = some (.ref f) ∧ PySem.W.keepIn K (.ref f) = true ∧ (∃ d : Value, RelV .non d ∧ Binds K fd (ps ++ [kw]) [d]) ∧
    ∀ (s : Shared) (us : List Value) (u : Value), K.In s.heap → us.length = ps.length → BindsTo s fd ⟨us, [(kw, u)]⟩ ((ps ++ [kw]).zip (us ++ [u]))
theorem CalB.mono {P : Program} {w : World} {K : PySem.W.Frag} {mg : Str → Option Value} {base : Heap} {j k : Nat} {x : Str} {ps : List Str} {kw : Str} {sp : SpD} (c : CalB P w K mg base j x ps kw sp) (h : j ≤ k) : CalB P w K mg base k x ps kw sp :=
  let ⟨f, fd, a, b⟩ := c.ex; ⟨f, fd, a.mono h, b⟩
section
variable {X : Cx} {E : XK} {k : Nat} {x kw : Str} {ps : List Str} {sp : SpD} {p pos kpos : Pos} {e e' : Expr} {es : List Expr} {u : DA_} {d : DT_}
end
section
variable {prog : Program} {w : World} {A : Around} {E : Value → Shared → Prop} {s : Shared} {l : Addr} {its : List Value} {ns : List Int} {Q : Value → Shared → Prop}
theorem itT_fp {m : Nat} (hlt : l < s.heap.objs.size) (o : Obj) : ∀ b ∈ [s.heap.objs.size, l], b < (s.heap.push o).objs.size := fun b hb => by
  rw [Heap.size_push]
  rcases List.mem_cons.mp hb with rfl | hb
  · exact Nat.lt_succ_self _
  · rcases List.mem_cons.mp hb with rfl | hb
    · exact Nat.lt_succ_of_lt hlt
    · cases hb
theorem itT_old {o : Obj} {h' : Heap} (hk : ∀ b ob, b ∉ [s.heap.objs.size] → (s.heap.push o).get? b = some ob → h'.get? b = some ob) : ∀ b ob, s.heap.get? b = some ob → h'.get? b = some ob := fun b ob eb => hk b ob (fun hb => by
  rw [List.mem_singleton] at hb
  subst hb
  exact absurd (Heap.lt_size eb) (Nat.lt_irrefl _)) (Heap.get?_push_of_some _ eb)
theorem minT_raw (hh : A.handled = none) (hl : s.heap.IsTuple l its.toArray) (hi : IntsAre its ns) (hne : 0 < ns.length)
    (h : ∀ h' tk M t', (∀ b o, s.heap.get? b = some o → h'.get? b = some o) → M ∈ ns → (∀ y, y ∈ ns → M ≤ y) → Q (.int M t') { s with heap := h', toks := tk }) : wpAny (model prog w) A (call (.builtin "min") [.ref l]) Q E s := by
  obtain ⟨xs, e⟩ := hi.allInts.items
  have hn : numsOf (intItems xs).toList = ns := by rw [← e]; exact hi.numsOf
  rw [nums_intItems] at hn
  subst hn
  rw [e] at hl
  have hlt : l < s.heap.objs.size := by obtain ⟨_, e, _⟩ := hl; exact Heap.lt_size e
  refine call_min_walk (wpAny_pyIter_tuple hl ?_)
  refine ⟨_, _, _, _, _, _, _, rfl, Walks.tuple (A := A.in1) hh _ l (Nat.ne_of_lt hlt) (intItems xs), ⟨⟨_, Heap.get?_push_size _ rfl, rfl, rfl⟩, hl.push _⟩, itT_fp (m := 0) hlt _, by rw [List.length_map] at hne; simpa [intItems] using hne, CmpOf.ints_lt (numAt xs) (fun _ _ => intItems_at), fun v h' tk hP hk => ?_⟩
  obtain ⟨t, rfl⟩ := intItems_at hP
  have ez : (intItems xs).size = xs.size := by simp [intItems]
  rw [ez]
  obtain ⟨g1, g2⟩ := argBest_lt (numAt xs) (xs.size - 1)
  have hsz : 0 < xs.size := by simpa using hne
  refine h h' tk _ t (itT_old hk) ?_ fun a ha => ?_
  · rw [numAt_eq]; exact PySem.getD_mem (by simp only [List.length_map, Array.length_toList]; omega)
  · obtain ⟨j, hj, rfl⟩ := mem_getD ha
    simp only [List.length_map, Array.length_toList] at hj
    rw [← numAt_eq]; exact g2 j (by omega)
theorem maxT_raw (hh : A.handled = none) (hl : s.heap.IsTuple l its.toArray) (hi : IntsAre its ns) (hne : 0 < ns.length)
    (h : ∀ h' tk M t', (∀ b o, s.heap.get? b = some o → h'.get? b = some o) → M ∈ ns → (∀ y, y ∈ ns → y ≤ M) → Q (.int M t') { s with heap := h', toks := tk }) : wpAny (model prog w) A (call (.builtin "max") [.ref l]) Q E s := by
  obtain ⟨xs, e⟩ := hi.allInts.items
  have hn : numsOf (intItems xs).toList = ns := by rw [← e]; exact hi.numsOf
  rw [nums_intItems] at hn
  subst hn
  rw [e] at hl
  have hlt : l < s.heap.objs.size := by obtain ⟨_, e, _⟩ := hl; exact Heap.lt_size e
  refine call_max_walk (wpAny_pyIter_tuple hl ?_)
  refine ⟨_, _, _, _, _, _, _, rfl, Walks.tuple (A := A.in1) hh _ l (Nat.ne_of_lt hlt) (intItems xs), ⟨⟨_, Heap.get?_push_size _ rfl, rfl, rfl⟩, hl.push _⟩, itT_fp (m := 0) hlt _, by rw [List.length_map] at hne; simpa [intItems] using hne, CmpOf.ints_gt (numAt xs) (fun _ _ => intItems_at), fun v h' tk hP hk => ?_⟩
  obtain ⟨t, rfl⟩ := intItems_at hP
  have ez : (intItems xs).size = xs.size := by simp [intItems]
  rw [ez]
  obtain ⟨g1, g2⟩ := argBest_gt (numAt xs) (xs.size - 1)
  have hsz : 0 < xs.size := by simpa using hne
  refine h h' tk _ t (itT_old hk) ?_ fun a ha => ?_
  · rw [numAt_eq]; exact PySem.getD_mem (by simp only [List.length_map, Array.length_toList]; omega)
  · obtain ⟨j, hj, rfl⟩ := mem_getD ha
    simp only [List.length_map, Array.length_toList] at hj
    rw [← numAt_eq]; exact g2 j (by omega)
end
section
variable {X : Cx} {E : XK} {pos : Pos}
def rMinT (K : PySem.W.Frag) : List V → Hp → VK → Prop := fun vs H Q => ∃ (a : Addr) (ns : List Int), vs = [V.ref a] ∧ SqT K H a (ns.map V.int) ∧ 0 < ns.length ∧ ∀ m, m ∈ ns → (∀ y, y ∈ ns → m ≤ y) → Q (.int m) H
def rMaxT (K : PySem.W.Frag) : List V → Hp → VK → Prop := fun vs H Q => ∃ (a : Addr) (ns : List Int), vs = [V.ref a] ∧ SqT K H a (ns.map V.int) ∧ 0 < ns.length ∧ ∀ m, m ∈ ns → (∀ y, y ∈ ns → y ≤ m) → Q (.int m) H
theorem cr_minT (hc : X.calm = true) : CallR X (.builtin "min") (rMinT X.K) := by
  intro pins s σ H vs us Q I r h
  obtain ⟨a, ns, rfl, hs, hne, q⟩ := h
  obtain ⟨its, rv, hl, _⟩ := I.tuple hs
  rw [Vals.ref1 r]
  exact minT_raw (I.ok.hd hc) hl rv.ints hne fun h' tk m t' hk h1 h2 => ⟨V.int _, H, I.kept hk, ⟨_, rfl⟩, q m h1 h2⟩
theorem cr_maxT (hc : X.calm = true) : CallR X (.builtin "max") (rMaxT X.K) := by
  intro pins s σ H vs us Q I r h
  obtain ⟨a, ns, rfl, hs, hne, q⟩ := h
  obtain ⟨its, rv, hl, _⟩ := I.tuple hs
  rw [Vals.ref1 r]
  exact maxT_raw (I.ok.hd hc) hl rv.ints hne fun h' tk m t' hk h1 h2 => ⟨V.int _, H, I.kept hk, ⟨_, rfl⟩, q m h1 h2⟩
def oMinA (xs : List D) (Q : DK) : Prop := match xs with
  | [.tp ys] => ∃ ns, intsD ys = some ns ∧ ns ≠ [] ∧ ∀ m, m ∈ ns → (∀ y ∈ ns, m ≤ y) → Q (.it m)
  | [.ls ys] => ∃ ns, intsD ys = some ns ∧ ns ≠ [] ∧ ∀ m, m ∈ ns → (∀ y ∈ ns, m ≤ y) → Q (.it m)
  | [.it i, .it j] => Q (.it (if j < i then j else i))
  | _ => False
theorem de_minA {u : DA_} {e : Expr} {es : List Expr} {p : Pos} (hc : X.calm = true) (hg : Gl X "min") (hm : X.mg "min" = none) (ha : DA X E (e :: es) u) (he : starEach (e :: es) X.env = (false, eval e X.env) :: starEach es X.env := by rfl) (hpl : (backTo pos (starEach es X.env)).any (·.1) = false := by rfl) : DE X E (.Call (.Name "min" p) (e :: es) [] pos) (dCB oMinA u) := by
  refine de_callB (cr_or (cr_minT hc) (cr_or (cr_min hc) (call_min2 hc))) (fun S => ?_) hg hm (by decide +kernel) ha (by decide) (by decide) he hpl
  intro H vs ds Q Qd g r h k
  unfold oMinA at h
  split at h
  · obtain ⟨ns, en, h0, h⟩ := h
    have := intsD_eq en
    subst this
    cases r with
    | cons r1 r2 =>
      cases r2
      cases r1 with
      | tp e rr =>
        have := ints_rp rr
        subst this
        exact .inl ⟨_, ns, rfl, SqT.of (g.fz _ _ e), List.length_pos_iff.mpr h0, fun m h1 h2 => k.now g (.it _) (h m h1 h2)⟩
  · obtain ⟨ns, en, h0, h⟩ := h
    have := intsD_eq en
    subst this
    cases r with
    | cons r1 r2 =>
      cases r2
      cases r1 with
      | ls e rr =>
        have := rpl_ints rr
        subst this
        exact .inr (.inl ⟨_, ns, rfl, SqL.of (g.fz _ _ e), List.length_pos_iff.mpr h0, fun m h1 h2 => k.now g (.it _) (h m h1 h2)⟩)
  · cases r with
    | cons r1 r2 =>
      cases r2 with
      | cons r2 r3 => cases r3; cases r1; cases r2; exact .inr (.inr ⟨_, _, rfl, k.now g (.it _) h⟩)
  · exact h.elim
def oMaxA (xs : List D) (Q : DK) : Prop := match xs with
  | [.tp ys] => ∃ ns, intsD ys = some ns ∧ ns ≠ [] ∧ ∀ m, m ∈ ns → (∀ y ∈ ns, y ≤ m) → Q (.it m)
  | [.ls ys] => ∃ ns, intsD ys = some ns ∧ ns ≠ [] ∧ ∀ m, m ∈ ns → (∀ y ∈ ns, y ≤ m) → Q (.it m)
  | [.it i, .it j] => Q (.it (if j > i then j else i))
  | _ => False
theorem de_maxA {u : DA_} {e : Expr} {es : List Expr} {p : Pos} (hc : X.calm = true) (hg : Gl X "max") (hm : X.mg "max" = none) (ha : DA X E (e :: es) u) (he : starEach (e :: es) X.env = (false, eval e X.env) :: starEach es X.env := by rfl) (hpl : (backTo pos (starEach es X.env)).any (·.1) = false := by rfl) : DE X E (.Call (.Name "max" p) (e :: es) [] pos) (dCB oMaxA u) := by
  refine de_callB (cr_or (cr_maxT hc) (cr_or (cr_max hc) (call_max2 hc))) (fun S => ?_) hg hm (by decide +kernel) ha (by decide) (by decide) he hpl
  intro H vs ds Q Qd g r h k
  unfold oMaxA at h
  split at h
  · obtain ⟨ns, en, h0, h⟩ := h
    have := intsD_eq en
    subst this
    cases r with
    | cons r1 r2 =>
      cases r2
      cases r1 with
      | tp e rr =>
        have := ints_rp rr
        subst this
        exact .inl ⟨_, ns, rfl, SqT.of (g.fz _ _ e), List.length_pos_iff.mpr h0, fun m h1 h2 => k.now g (.it _) (h m h1 h2)⟩
  · obtain ⟨ns, en, h0, h⟩ := h
    have := intsD_eq en
    subst this
    cases r with
    | cons r1 r2 =>
      cases r2
      cases r1 with
      | ls e rr =>
        have := rpl_ints rr
        subst this
        exact .inr (.inl ⟨_, ns, rfl, SqL.of (g.fz _ _ e), List.length_pos_iff.mpr h0, fun m h1 h2 => k.now g (.it _) (h m h1 h2)⟩)
  · cases r with
    | cons r1 r2 =>
      cases r2 with
      | cons r2 r3 => cases r3; cases r1; cases r2; exact .inr (.inr ⟨_, _, rfl, k.now g (.it _) h⟩)
  · exact h.elim
end
section
variable {X : Cx} {E : XK} {pos : Pos} {tg : Expr} {a b c : Expr}
end
def hd0 (ns : List Int) : Int := ns.headD 0
section
variable {prog : Program} {w : World} {A : Around} {E : Value → Shared → Prop} {s : Shared}
structure HeadsOk (h : Heap) (vs : List Value) : Prop where
  tup : ∀ v ∈ vs, ∃ ns, TS.TupInts h v ns ∧ ns ≠ []
  one : ∀ v ∈ vs, ∀ u ∈ vs, ∀ ns ms, TS.TupInts h v ns → TS.TupInts h u ms → hd0 ns = hd0 ms → ns = ms
theorem HeadsOk.keeps {h h' : Heap} {vs : List Value} (x : HeadsOk h vs) (k : ∀ b o, h.get? b = some o → o.cls = .type "tuple" → h'.get? b = some o) : HeadsOk h' vs := by
  refine ⟨fun v hv => ?_, fun v hv u hu ns ms h1 h2 e => ?_⟩
  · obtain ⟨ns, t, hn⟩ := x.tup v hv
    exact ⟨ns, t.keeps k, hn⟩
  · obtain ⟨ns0, t0, _⟩ := x.tup v hv
    obtain ⟨ms0, t1, _⟩ := x.tup u hu
    have e1 : ns = ns0 := h1.ints.symm.trans (t0.keeps k).ints
    have e2 : ms = ms0 := h2.ints.symm.trans (t1.keeps k).ints
    subst e1; subst e2
    exact x.one v hv u hu _ _ t0 t1 e
end
section
variable {P : Program} {w : World} {A : Around} {E : Value → Shared → Prop} {s : Shared}
end
section
variable {X : Cx}
end
section
variable {X : Cx} {E : XK} {pos : Pos}
end
section
variable {X : Cx} {E : XK} {pos : Pos}
end
section
variable {X : Cx} {E : XK} {pos : Pos}
end
section
variable {X : Cx} {E : XK} {pos : Pos}
end
end Dl
namespace PySem
namespace SlipX
open PySem.W PySem.Calls PyProof.Rows PySem.HandSPX
theorem one_size (v : Value) : [v].length ≤ sizeLine := by
  rw [sizeLine_eq]
  exact (by decide : 1 ≤ 16777216)
theorem ldC {M : Model} {s : Shared} {name : Str} {scope : Scope} {L a : Addr} {cd : Value} {m : Str → Option Value} {x : Str} {pos : Pos} {v : Value} {Q : Value → Shared → Prop} {A : Around} {E : Value → Shared → Prop} (hn : s.heap.Ns L m) (hv : m x = some v) (h : Q v s)
    (hk : scope.kind = .function := by rfl) (hl : (envOfC name scope L a cd).kindOf x = some .local := by rfl) (hd : (x == ("__debug__" : Str)) = false := by decide) :
    wpAny M A (eval (.Name x pos) (envOfC name scope L a cd)) Q E s := wpAny_Name (wpAny_loadName_local hk hl hn hv h) hd
structure InitEnd (fn : Str) (h h' : Heap) (x C dx t1 : Addr) (v : Value) : Prop where
  keep : ∀ b o, b ≠ x → h.get? b = some o → h'.get? b = some o
  obj : h'.get? x = some { cls := .ref C, dict := some dx, data := .fields #[.ref t1, .none, .none, .none, .bool false, .none] }
  dbig : h.objs.size ≤ dx
  dne : dx ≠ x
  ns : h'.Ns1 dx (fun y => if y = fn then some v else none)
structure OwnMade (fn : Str) (h h' : Heap) (e C d : Addr) (v : Value) : Prop where
  keep : ∀ b o, h.get? b = some o → h'.get? b = some o
  new : h.objs.size ≤ e
  obj : ∃ oe vs, h'.get? e = some oe ∧ oe.cls = .ref C ∧ oe.dict = some d ∧ oe.data = .fields vs ∧ vs[1]? = some .none
  dbig : h.objs.size ≤ d
  dne : d ≠ e
  ns : h'.Ns1 d (fun y => if y = fn then some v else none)
structure Txt (iA : Pos → Pos → Arguments) (iB : Pos → Pos → Pos → Pos → List Stmt) (iS : Scope) (fn qn : Str) (K : Frag) (C fI : Addr) : Prop where
  cls : ∃ nm q N bs bm sn sub ab col dd k0 k1 k2 k3 k5, K.lookup C = some (excClassObj nm q C N bs bm true sn sub ab col dd k0 k1 k2 k3 k5 "ValueError.__new__") ∧ refsVE bm = true
  sa : findIn K (.ref C) "__setattr__" = some (some (.builtin "object.__setattr__"))
  ga : findIn K (.ref C) "__getattribute__" = some (some (.builtin "BaseException.__getattribute__"))
  gg : findIn K (.ref C) "__getattr__" = some none
  noN : findIn K (.ref C) fn = some none
  iC : findIn K (.ref C) "__init__" = some (some (.ref fI))
  tC : typeIn K (.ref fI) = some (.type "function")
  kC : keepIn K (.ref C) = true
  exC : subIn K (.ref C) (.type "BaseException") = some true
  tyC : typeIn K (.ref C) = some (.type "type")
  hdC : hasDictIn K C = true
  fn_ : ∃ (oc : Value) (od : Option Addr) (doc pm : Value) (an : Option Addr) (cdv ct : Value) (osl : Array (Option Value)) (p1 p2 q1 q2 q3 q4 : Pos),
    K.lookup fI = some ⟨oc, od, .func (fnOf "__init__" qn (iA p1 p2) (iB q1 q2 q3 q4) iS .none .none doc pm an cdv ct), osl⟩ ∧ codeIn K cdv qn = true
section
variable {prog : Program} {w : World} {A : Around} {E : Value → Shared → Prop} {R : Result → Shared → Prop} {s : Shared} {K : Frag} {qn : Str} {C fI : Addr}
end
section
variable {prog : Program} {w : World} {A : Around} {E : Value → Shared → Prop} {R : Result → Shared → Prop} {s : Shared} {K : Frag} {qn : Str} {C fI : Addr}
end
section
variable {prog : Program} {w : World} {A : Around} {E : Value → Shared → Prop} {R : Result → Shared → Prop} {s : Shared} {K : Frag} {qn : Str} {C fI : Addr}
end
section
variable {prog : Program} {w : World} {A : Around} {E : Value → Shared → Prop} {R : Result → Shared → Prop} {s : Shared} {K : Frag} {qn : Str} {C fI : Addr}
end
def iA_index (p1 p2 : Pos) : Arguments := { posonlyargs := [], args := [{ arg := "self", annotation := none, pos := p1 }, { arg := "index", annotation := none, pos := p2 }], vararg := none, kwonlyargs := [], kw_defaults := [], kwarg := none, defaults := [] }
def iB_index (q1 q2 q3 q4 : Pos) : List Stmt := [.Assign [.Attribute (.Name "self" q1) "index" q2] (.Name "index" q3) q4]
def iS_index : Scope := { kind := .function, names := [(PySem.Str.ofString "self", .local), (PySem.Str.ofString "index", .local)], isGenerator := false, isCoroutine := false, more := [] }
abbrev Txt_index (qn : Str) (K : Frag) (C fI : Addr) : Prop := Txt iA_index iB_index iS_index "index" qn K C fI
section
variable {prog : Program} {w : World} {A : Around} {E : Value → Shared → Prop} {R : Result → Shared → Prop} {s : Shared} {K : Frag} {qn : Str} {C fI : Addr}
theorem init_index (T : Txt_index qn K C fI) {x t0 : Addr} {v : Value} (X : K.In s.heap) (hlim : s.heap.NoLimit) (hx : s.heap.get? x = some (excO C t0)) (hnx : K.lookup x = none) (hroom : A.depth < recursionLimit)
    (hq : ∀ h' tk dx, InitEnd "index" s.heap h' x C dx t0 v → R (.ok (.ret .none)) { s with heap := h', toks := tk }) :
    codeAny (model prog w) A (.call (.ref fI) ⟨[.ref x, v], []⟩) R s := by
  obtain ⟨oc, od, doc, pm, an, cdv, ct, osl, p1, p2, q1, q2, q3, q4, ho, hcd⟩ := T.fn_
  obtain ⟨nm, q, N, bs, bm, sn, sub, ab, col, dd, k0, k1, k2, k3, k5, hC, hbm⟩ := T.cls
  have hcl : clsIn K C = some { name := nm, bases := bs, mro := .ref C :: bm, ns := N, qualname := q, hasDict := true, slotNames := sn, subclasses := sub, abstract := ab, collection := col, hasDel := false } := by unfold clsIn; rw [hC] <;> rfl
  refine Att.call_fn (binds := [("self", .ref x), ("index", v)]) X hlim ho hcd hroom (BindsTo.of_eq (by first | rfl | with_unfolding_all rfl)) (by first | rfl | decide | with_unfolding_all rfl) (fun s₁ IC => ?_) rfl rfl rfl
  obtain ⟨h₁, tk₁, rfl⟩ := IC.toInCall.same
  have k : ∀ b o, s.heap.get? b = some o → h₁.get? b = some o := IC.toInCall.keep
  have hn := IC.toInCall.ns
  have X₁ : K.In h₁ := X.keeps k
  have hx₁ := k _ _ hx
  show wpAny _ _ (execs _ _) _ _ _
  refine wpAny_execs_cons (plainObj_wpAny_Assign_Attribute ?_)
  refine ldC (v := v) hn (by first | rfl | with_unfolding_all rfl | kernel_rfl) (ldC (v := .ref x) hn (by first | rfl | with_unfolding_all rfl | kernel_rfl) ?_)
  refine set_plain X₁ (ox := excO C t0) (od := none) ⟨hx₁, rfl, rfl, trivial⟩ T.sa ?_
  refine exc_osa X₁ hx₁ hcl (show refsVE (.ref C :: bm) = true from hbm) rfl T.noN (fun h₃ tk₃ dx k₃ dn dne hx₃ hn₃ => ?_)
  show wpAny _ _ (execs _ _) _ _ _
  have z : s.heap.objs.size < h₁.objs.size := hn.lt
  exact wpAny_execs_nil (hq h₃ tk₃ dx ⟨fun b o hb e => k₃ b o hb (k b o e), hx₃, Nat.le_of_lt (Nat.lt_of_lt_of_le z dn), dne, hn₃⟩)
theorem made_index (T : Txt_index qn K C fI) {v : Value} (X : K.In s.heap) (hlim : s.heap.NoLimit) (hroom : A.depth + 1 < recursionLimit)
    (hq : ∀ h' tk e d, OwnMade "index" s.heap h' e C d v → R (.ok (.ret (.ref e))) { s with heap := h', toks := tk }) :
    codeAny (model prog w) A (.call (.ref C) ⟨[v], []⟩) R s := by
  obtain ⟨nm, q, N, bs, bm, sn, sub, ab, col, dd, k0, k1, k2, k3, k5, hC, hbm⟩ := T.cls
  obtain ⟨hp, g, dr, tk, os⟩ := s
  have k : ∀ b o, hp.get? b = some o → ((hp.push (kdv_tup [v])).push (excO C hp.objs.size)).get? b = some o := fun b o e => Heap.get?_push_of_some _ (Heap.get?_push_of_some _ e)
  have hget : ((hp.push (kdv_tup [v])).push (excO C hp.objs.size)).get? (hp.objs.size + 1) = some (excO C hp.objs.size) := by heap_get
  have hnx : K.lookup (hp.objs.size + 1) = none := by
    cases e : K.lookup (hp.objs.size + 1) with
    | none => rfl
    | some o =>
      have z : hp.get? (hp.objs.size + 1) = some o := X _ _ e
      exact absurd (Nat.lt_of_succ_lt (Heap.lt_size z)) (Nat.lt_irrefl _)
  refine call_own F.excBase_ValueError (fun X => refsVE_contains X bm hbm) (X _ _ hC) (looks_findIn X T.iC) (fun self => bind_fn X self T.tC) (one_size v) ?_
  refine init_index (s := ⟨(hp.push (kdv_tup [v])).push (excO C hp.objs.size), g, dr, tk, os⟩) T (X.keeps k) (hlim.keeps k) hget hnx ?_ fun h' tk' dx ⟨k', hx, dn, dne, hns⟩ => ?_
  · show A.depth + 1 < recursionLimit
    exact hroom
  · have old : ∀ b o, hp.get? b = some o → h'.get? b = some o := fun b o e => k' b o (Nat.ne_of_lt (Nat.lt_succ_of_lt (Heap.lt_size e))) (k b o e)
    have z : hp.objs.size + 1 + 1 ≤ dx := by
      first
        | (simpa only [Heap.size_push] using dn)
        | exact dn
        | (have q := dn; rw [Heap.size_push, Heap.size_push] at q; exact q)
    exact ⟨rfl, hq h' tk' (hp.objs.size + 1) dx ⟨old, Nat.le_succ _, ⟨_, _, hx, rfl, rfl, rfl, rfl⟩, Nat.le_trans (Nat.le_trans (Nat.le_succ _) (Nat.le_succ _)) z, dne, hns⟩⟩
end
end SlipX
end PySem
namespace L2
open PySem PySem.Spec PyProof.Rows
def tMkF (C : Addr) (fn : Str) (ta : TA) : St → Hp → XK → Prop := fun σ H Q => ta σ H fun vs H1 => ∃ v, vs = [v] ∧ ∀ d, H1 d = none → Q (.ref C) (some d) (upd H1 d (.xd [(fn, v)]))
theorem relO_one {v : V} {v' : Value} (fn : Str) (r : RelV v v') (f : Str) : RelO (List.lookup f [(fn, v)]) (if f = fn then some v' else none) := by
  by_cases hw : f = fn
  · subst hw
    rw [if_pos rfl]
    have q : List.lookup f [(f, v)] = some v := by simp [List.lookup]
    rw [q]
    exact r
  · rw [if_neg hw]
    have qw : (f == fn) = false := by simpa using hw
    have q2 : List.lookup f [(fn, v)] = none := by simp [List.lookup, qw]
    rw [q2]
    trivial
section
variable {X : Cx} {C fI : Addr} {cn fn : Str}
theorem mkP_own {pins : List (Addr × Obj)} {σ : St} {H1 : Hp} {Q : XK} {hp h' : Heap} {g : Array GenState} {dr : Drawn} {tk tk' : Nat} {os : OsState} {e d : Addr} {v : V} {v' : Value} (rv : RelV v v') (exC : PySem.W.subIn X.K (.ref C) (.type "BaseException") = some true) (tyC : PySem.W.typeIn X.K (.ref C) = some (.type "type"))
    (I1 : Inv X pins σ H1 ⟨hp, g, dr, tk, os⟩) (M : PySem.SlipX.OwnMade fn hp h' e C d v') (q1 : ∀ d, H1 d = none → Q (.ref C) (some d) (upd H1 d (.xd [(fn, v)]))) : MkP X pins σ Q (.ref e) ⟨h', g, dr, tk', os⟩ := by
  obtain ⟨oe, fv, hoe, hc, hd, hdat, h1⟩ := M.obj
  have hns := M.ns
  obtain ⟨G', g1, g2⟩ := restrict h' fun b => decide (b ≠ e)
  have gk : ∀ b, b ≠ e → G'.get? b = h'.get? b := fun b hb => g1 b (decide_eq_true hb)
  have ge : G'.get? e = none := g2 e (by simp)
  have old : ∀ b o, hp.get? b = some o → G'.get? b = some o := fun b o q => (gk b (Nat.ne_of_lt (Nat.lt_of_lt_of_le (Heap.lt_size q) M.new))).trans (M.keep b o q)
  have ob : ObjOk X.prog X.w (upd H1 d (.xd [(fn, v)])) G' d (.xd [(fn, v)]) :=
    ⟨_, hns.at (fun o q => (gk d M.dne).trans q), fun f => relO_one fn rv f⟩
  have J : Inv X pins σ (upd H1 d (.xd [(fn, v)])) ⟨G', g, dr, tk', os⟩ := I1.laid (t' := tk') old M.dbig ob
  refine ⟨e, oe, fv, ⟨G', g, dr, tk', os⟩, _, .ref C, some d, rfl, J, fun b o q => ?_, ge, hoe, ⟨hc, hd⟩, hdat, h1, ?_, rfl, I1.bare, raises_own exC tyC, q1 d (I1.hok.fresh M.dbig)⟩
  · by_cases hb : b = e
    · have q' : G'.get? b = some o := q
      rw [hb, ge] at q'; cases q'
    · exact (gk b hb).symm.trans q
  · rw [upd_ne (Ne.symm M.dne)]
    exact I1.hok.fresh M.new
theorem pmk_index {qn : Str} {a : Expr} {ta : TA} {p pos : Pos} {k : Nat} (T : PySem.SlipX.Txt_index qn X.K C fI) (gC : X.mg cn = some (.ref C)) (hr : Room k X.A) (ha : PA X [a] ta) (hg : Gl X cn) (hdb : (cn == ("__debug__" : Str)) = false)
    (he : starEach (a :: []) X.env = (false, eval a X.env) :: starEach [] X.env := by rfl) (hpl : (backTo pos (starEach [] X.env)).any (·.1) = false := by rfl) :
    PMk X (.Call (.Name cn p) [a] [] pos) (tMkF C "index" ta) := by
  intro pins s σ H Q I h
  refine wpAny_Call_Name_kw (ld_glob I hg gC ?_ hdb)
  refine PySem.W.callWith_K (h₀ := X.base) I.ok.mod.kin T.kC (thn (ha.run pos pins s σ H _ I h) fun us s1 hh => ?_) he hpl
  obtain ⟨vs, H1, I1, r1, v, ev, q1⟩ := hh
  subst ev
  refine ⟨I1.kIn, ?_⟩
  cases r1 with
  | cons rv rn =>
    rename_i v' us'
    cases rn
    show wpAny _ _ (call (.ref C) [v']) _ _ _
    have hlim := I1.nolimit
    obtain ⟨hp, g, dr, tk, os⟩ := s1
    exact wpAny_call (PySem.SlipX.made_index T I1.kIn hlim (by have := hr.dp; omega) fun h' tk' e d M => mkP_own rv T.exC T.tyC I1 M q1)
end
end L2
namespace Dl
open PySem PySem.Spec PyProof.Rows L2
def dRaise1 (cn fn : Str) (da : DT_) : DS_ := fun De env => da env (fun x => De.ex ⟨cn, [(fn, x)]⟩) De.ex
theorem ds_raiseF {X : Cx} {E : XK} {C : Addr} {cn fn : Str} {da : DT_} {a : Expr} {p pos pos2 : Pos} {t : TE} (hc : X.calm = true) (tk : Takes X (fun cls d _ H => E cls d H)) (gC : X.mg cn = some (.ref C)) (pa : PE X a t)
    (sem : ∀ Z S H σ env Q Qd Ed, Good S H → Rel Z S H σ env → XLink X.mg S H Ed E → da env Qd Ed → Cont S H Qd Q → t σ H Q) (mk : PMk X (.Call (.Name cn p) [a] [] pos) (tMkF C fn (tCons t tNil))) : DS X E (.Raise (some (.Call (.Name cn p) [a] [] pos)) none pos2) (dRaise1 cn fn da) := by
  refine ⟨_, ps_raise hc tk mk, fun B De Dn l S σ env H at_ r h => ?_⟩
  refine sem _ S H σ env _ _ _ at_.g r (l.xl at_) h fun v H1 S1 x s1 g1 rv hx => ⟨v, rfl, fun d hd => ?_⟩
  obtain ⟨s2, g2⟩ := step_own g1 (o := HO.xd [(fn, v)]) hd
  have a2 := (at_.step s1 g1).step s2 g2
  refine (l.xl a2) (.ref C) (some d) _ S1 ⟨cn, [(fn, x)]⟩ (.refl _ _) g2 ⟨gC, .inr ⟨d, _, rfl, upd_same, fun z => ?_, .cons ⟨rfl, rv⟩ .nil⟩⟩ hx
  obtain ⟨o, e⟩ := g1.box z
  rw [hd] at e; cases e
theorem ds_raise_index {X : Cx} {E : XK} {C fI : Addr} {cn qn : Str} {da : DT_} {a : Expr} {p pos pos2 : Pos} {k : Nat} (hc : X.calm = true) (tk : Takes X (fun cls d _ H => E cls d H)) (T : PySem.SlipX.Txt_index qn X.K C fI) (gC : X.mg cn = some (.ref C)) (hr : Room k X.A) (ha : DE X E a da) (hg : Gl X cn) (hdb : (cn == ("__debug__" : Str)) = false := by decide)
    (he : starEach (a :: []) X.env = (false, eval a X.env) :: starEach [] X.env := by rfl) (hpl : (backTo pos (starEach [] X.env)).any (·.1) = false := by rfl) : DS X E (.Raise (some (.Call (.Name cn p) [a] [] pos)) none pos2) (dRaise1 cn "index" da) := by
  obtain ⟨t, pa, q⟩ := ha.run
  exact ds_raiseF hc tk gC pa q (pmk_index T gC hr (pa_cons pa pa_nil he) hg hdb he hpl)
section
variable {X : Cx} {es : List Expr} {e : Expr} {u : DA_} {d : DT_} {db : DB_}
def cA (u : DA_) : TA := fun σ H Q => ∃ Z S env Qd, Good S H ∧ Rel Z S H σ env ∧ u env Qd (fun _ => False) ∧ ContL S H Qd Q
def cB (d : DB_) : TT := fun σ H Q => ∃ Z S env Qd, Good S H ∧ Rel Z S H σ env ∧ d env Qd (fun _ => False) ∧ ContB S H Qd Q
theorem pa_tr (h : ∀ pn xe, DA (X.tr pn xe) E0 es u) (pn : List (Addr × Obj)) (xe : Value → Shared → Prop) : PA (X.tr pn xe) es (cA u) := ⟨fun pos pins s σ H Q I ⟨Z, S, env, Qd, g, r, hu, k⟩ => by
  obtain ⟨t, p, q⟩ := (h pn xe).run
  exact p.run pos pins s σ H Q I (q Z S H σ env Q Qd _ g r xl0 hu k)⟩
theorem pt_tr (h : ∀ pn xe, DB (X.tr pn xe) E0 e db) (pn : List (Addr × Obj)) (xe : Value → Shared → Prop) : PT (X.tr pn xe) e (cB db) := ⟨fun pins s σ H Q I ⟨Z, S, env, Qd, g, r, hu, k⟩ => by
  obtain ⟨t, p, q⟩ := (h pn xe).run
  exact p.run pins s σ H Q I (q Z S H σ env Q Qd _ g r xl0 hu k)⟩
end
structure DXt (X : Cx) (e : Expr) (d : DT_) : Prop where
  run : ∃ t : WX → TE, (∀ W pn xe, Takes (X.tr pn xe) W → PE (X.tr pn xe) e (t W)) ∧ ∀ W Z S H σ env Q Qd Ed, Good S H → Rel Z S H σ env → XLink X.mg S H Ed (fun cls dx H' => W cls dx σ H') → d env Qd Ed → Cont S H Qd Q → t W σ H Q
def dCallX (sp : SpD) (u : DA_) : DT_ := fun env Q E => u env (fun xs => sp xs Q E) (fun _ => False)
def dIfX (t : DB_) (da db : DT_) : DT_ := fun env Q E => t env (fun c => match c with | true => da env Q E | false => db env Q E) (fun _ => False)
section
variable {X : Cx} {k : Nat} {x kw : Str} {ps : List Str} {sp : SpD} {p pos kpos : Pos} {e e' : Expr} {es : List Expr} {u : DA_} {d : DT_}
theorem run_x {Y : Cx} {f : Addr} {fd : FuncData} {pins : List (Addr × Obj)} {σ : L2.St} {H : Hp} {s : Shared} {Q : VK} {E : XK} {us : List Value} {args : Args} {vs : List V} {S : Sta} {ds : List D} {Qd : DK} {Ed : EK} {qs : List Str} (F : GFn Y.prog Y.w Y.K Y.mg Y.base k f fd qs sp) (hr : Room k Y.A) (hgd : Y.A.guards = some []) (hb : BindsTo s fd args (qs.zip us))
    (hx : PassesAt (L2.CX Y.prog Y.w) Y σ E) (I : Inv Y pins σ H s) (r : Vals vs us) (g : Good S H) (rp : RpL S.bx S.F vs ds) (h : sp ds Qd Ed) (k0 : Cont S H Qd Q) (l : XLink Y.mg S H Ed E) : wpAny (model Y.prog Y.w) Y.A (call (.ref f) args.pos args.kw) (EP Y pins σ Q) Y.xe s := by
  refine wpAny_call (codeAny_mono (F.run Y.A Y.stack s H args us vs Q E S ds Qd Ed hr hgd I.env0 hb r g rp h k0 l) fun res s' hq => ?_)
  match res, hq with
  | .error y, hq => exact hx pins H s y s' I hq
  | .ok (.ret y), hq => exact I.after hq
  | .ok .next, hq => exact False.elim hq
  | .ok .brk, hq => exact False.elim hq
  | .ok .cont, hq => exact False.elim hq
theorem dx_call (c : Cal X.prog X.w X.K X.mg X.base k x ps sp) (hr : Room k X.A) (hgd : X.A.guards = some []) (hg : Gl X x) (ha : ∀ pn xe, DA (X.tr pn xe) E0 (e :: es) u)
    (hdb : (x == ("__debug__" : Str)) = false := by decide) (he : starEach (e :: es) X.env = (false, eval e X.env) :: starEach es X.env := by rfl) (hpl : (backTo pos (starEach es X.env)).any (·.1) = false := by rfl) :
    DXt X (.Call (.Name x p) (e :: es) [] pos) (dCallX sp u) := by
  obtain ⟨f, fd, F, hm, hk, hb⟩ := c.ex
  refine ⟨fun W σ H Q => cA u σ H fun vs H1 => ∃ S ds Qd Ed, Good S H1 ∧ RpL S.bx S.F vs ds ∧ sp ds Qd Ed ∧ Cont S H1 Qd Q ∧ XLink X.mg S H1 Ed (fun cls dx H' => W cls dx σ H'), fun W pn xe tk => ⟨fun pins s σ H Q I h => ?_⟩, fun W Z S H σ env Q Qd Ed g r l h k0 => ?_⟩
  · refine wpAny_Call_Name_kw (ld_glob (X := X.tr pn xe) I hg hm ?_ hdb)
    refine PySem.W.callWith_K (h₀ := X.base) I.ok.mod.kin hk (thn ((pa_tr ha pn xe).run pos pins s σ H _ I h) fun us s1 ⟨vs, H1, I1, r, S, ds, Qd, Ed, g, rp, h, k0, l⟩ => ⟨I1.kIn, ?_⟩) he hpl
    have hl : us.length = ps.length := by rw [← r.length, rp.length]; exact F.len _ _ _ h
    have b := hb s1 us I1.kIn (by rw [List.append_nil]; exact hl)
    rw [List.append_nil] at b
    exact run_x (Y := X.tr pn xe) F hr hgd (args := ⟨us, []⟩) b (passAt tk σ) I1 r g rp h k0 l
  · exact ⟨Z, S, env, _, g, r, h, fun vs H1 S1 xs s1 g1 r1 h1 => ⟨S1, xs, Qd, Ed, g1, r1, h1, k0.step s1 g1, l.step s1 g1⟩⟩
theorem dx_if {c a b : Expr} {tb : DB_} {da db : DT_} (hc : ∀ pn xe, DB (X.tr pn xe) E0 c tb) (ha : DXt X a da) (hb : DXt X b db) : DXt X (.IfExp c a b pos) (dIfX tb da db) := by
  obtain ⟨t1, p1, q1⟩ := ha.run
  obtain ⟨t2, p2, q2⟩ := hb.run
  refine ⟨_, fun W pn xe tk => pe_ifExp (pt_tr hc pn xe) (p1 W pn xe tk) (p2 W pn xe tk), fun W Z S H σ env Q Qd Ed g r l h k => ?_⟩
  refine ⟨Z, S, env, _, g, r, h, fun c H1 S1 s1 g1 h1 => ?_⟩
  cases c with
  | true =>
    show if true = true then t1 W σ H1 Q else t2 W σ H1 Q
    rw [if_pos rfl]
    exact q1 W Z S1 H1 σ env _ _ Ed g1 (r.step s1) (l.step s1 g1) h1 (k.step s1 g1)
  | false =>
    show if false = true then t1 W σ H1 Q else t2 W σ H1 Q
    rw [if_neg Bool.false_ne_true]
    exact q2 W Z S1 H1 σ env _ _ Ed g1 (r.step s1) (l.step s1 g1) h1 (k.step s1 g1)
end
def isx (n m : Str) : Bool := n == m || m == ("SlipError" : Str)
structure XCls (K : PySem.W.Frag) (mg : Str → Option Value) (B : Addr) (ms fs : List Str) (n : Str) (C : Addr) : Prop where
  g : mg n = some (.ref C)
  k : ExcC K C
  m : PySem.W.exmOne K (.ref C) (.ref B) = some true
  ve : PySem.W.kitOne K (.ref C) (.type "ValueError") = some true
  t : ∀ m ∈ ms, ∃ D, mg m = some (.ref D) ∧ PySem.W.kitOne K (.ref C) (.ref D) = some (isx n m)
  f : ∀ f ∈ fs, PySem.W.findIn K (.ref C) f = some none
structure XTab (K : PySem.W.Frag) (mg : Str → Option Value) (base : Str) (cs ms fs : List Str) : Prop where
  b : ∃ B, mg base = some (.ref B) ∧ ∀ n ∈ cs, ∃ C, XCls K mg B ms fs n C
structure Cau (X : Cx) (ms fs : List Str) (a : Addr) (oe : Obj) (C : Addr) (dx : Option Addr) (x : Exn) : Prop where
  z : Zc (.ref C) dx oe
  f : ∃ vs, oe.data = .fields vs
  c : ∃ B, XCls X.K X.mg B ms fs x.cls C
theorem Cau.t_ {X : Cx} {ms fs : List Str} {a : Addr} {oe : Obj} {C : Addr} {dx : Option Addr} {x : Exn} (c : Cau X ms fs a oe C dx x) (m : Str) (hm : m ∈ ms) : ∃ D, X.mg m = some (.ref D) ∧ PySem.W.kitOne X.K (.ref C) (.ref D) = some (isx x.cls m) := let ⟨_, k⟩ := c.c; k.t m hm
theorem Rel.put_xn {Z : Hp} {S : Sta} {H : Hp} {σ : L2.St} {env : Env'} (r : Rel Z S H σ env) {i : Nat} {a : Addr} {dx : Option Addr} {x : Exn} (h : XD S H dx x) : Rel Z S H (σ.set i (some (.ref a))) (env.set i (.xn a dx x)) where
  len := by rw [List.length_set, List.length_set]; exact r.len
  at_ := fun j s e => by
    by_cases hj : j = i
    · subst hj
      have hl : j < env.length := by
        have := (List.getElem?_eq_some_iff.mp e).1
        rwa [List.length_set] at this
      rw [List.getElem?_set_self hl] at e
      cases e
      exact ⟨by rw [List.getElem?_set_self (by rw [r.len]; exact hl)], h⟩
    · rw [List.getElem?_set_ne (Ne.symm hj)] at e ⊢
      exact r.at_ j s e
  sep := fun j k xs ys a hjk e1 e2 h1 => by
    have n1 : j ≠ i := fun z => by
      subst z
      by_cases hl : j < env.length
      · rw [List.getElem?_set_self hl] at e1; cases e1
      · rw [List.getElem?_eq_none_iff.mpr (by rw [List.length_set]; omega)] at e1; cases e1
    have n2 : k ≠ i := fun z => by
      subst z
      by_cases hl : k < env.length
      · rw [List.getElem?_set_self hl] at e2; cases e2
      · rw [List.getElem?_eq_none_iff.mpr (by rw [List.length_set]; omega)] at e2; cases e2
    rw [List.getElem?_set_ne (Ne.symm n1)] at e1 h1
    rw [List.getElem?_set_ne (Ne.symm n2)] at e2 ⊢
    exact r.sep j k xs ys a hjk e1 e2 h1
def DEnds.gone (De : DEnds) (i : Nat) : DEnds := { nx := fun env => De.nx (env.set i .no), rt := De.rt, ex := fun _ => False, bk := fun env => De.bk (env.set i .no), ct := fun env => De.ct (env.set i .no) }
def dCatch (i : Nat) (cs : List Str) (hd : Addr → Option Addr → Exn → DS_) (De : DEnds) (env : Env') : EK := fun x => x.cls ∈ cs ∧ ∀ a dx, hd a dx x (De.gone i) (env.set i (.xn a dx x))
def dTryS (j i : Nat) (cs : List Str) (de : DT_) (hd : Addr → Option Addr → Exn → DS_) : DS_ := fun De env => de env (fun v => De.nx (env.set j (.v v))) (dCatch i cs hd De env)
section
variable {X : Cx} {E : XK} {ms fs cs : List Str} {base n : Str} {i : Nat} {e : Expr} {de : DT_} {b₀ : Stmt} {suite : List Stmt} {np p1 pos pos' : Pos} {hd : Addr → Option Addr → Exn → DS_}
def tSuite (X : Cx) (cs : List Str) (hd : Addr → Option Addr → Exn → DS_) : Addr → Value → Option Addr → TS := fun a cls dx Dn σ H => ∃ (x : Exn) (De : DEnds) (B : Base) (S : Sta) (env : Env'), X.mg x.cls = some cls ∧ x.cls ∈ cs ∧ Lnk X.mg E0 B De Dn ∧ At B S H ∧ Rel B.H0 S H σ env ∧ hd a dx x De env
theorem tSuite_ok (T : XTab X.K X.mg base cs ms fs) (hsu : ∀ a oe C dx x pn, Cau X ms fs a oe C dx x → DSs (X.suite a ((a, oe) :: pn)) E0 (b₀ :: suite) (hd a dx x)) (a : Addr) (oe : Obj) (cls : Value) (dx : Option Addr) (pn : List (Addr × Obj)) (hz : Zc cls dx oe) (hf : ∃ vs, oe.data = .fields vs) :
    PSs (X.suite a ((a, oe) :: pn)) (b₀ :: suite) (tSuite X cs hd a cls dx) := ⟨fun pins s σ H Dn I ⟨x, De, B, S, env, hm, hc, l, at_, r, h⟩ => by
  obtain ⟨BB, hB, hall⟩ := T.b
  obtain ⟨C, XC⟩ := hall x.cls hc
  have e := XC.g
  rw [hm] at e; cases e
  obtain ⟨t, p, q⟩ := (hsu a oe C dx x pn ⟨hz, hf, BB, XC⟩).run
  exact p.run pins s σ H Dn I (q B De Dn l S σ env H at_ r h)⟩
theorem catch_link {K : PySem.W.Frag} {B0 : Addr} {Wout : WX} {B : Base} {De : DEnds} {Dn : Ends} (hK : K = X.K) (hB : X.mg base = some (.ref B0)) (T : ∀ n ∈ cs, ∃ C, XCls X.K X.mg B0 ms fs n C) (l : Lnk X.mg E B De Dn) {S : Sta} {σ : L2.St} {env : Env'} {H : Hp} (at_ : At B S H) (r : Rel B.H0 S H σ env) :
    XLink X.mg S H (dCatch i cs hd De env) (fun cls dx H' => wAs K (.ref B0) i (tSuite X cs hd) Wout Dn cls dx σ H') := by
  subst hK
  intro C dx H' S' x s1 g1 rx hx
  obtain ⟨hc, hk⟩ := hx
  obtain ⟨D0, XC⟩ := T x.cls hc
  have e := XC.g
  rw [rx.1] at e; cases e
  refine ⟨true, XC.m, fun _ a _ => ?_, fun z => nomatch z⟩
  have gone : ∀ {P : Env' → Prop} {P' : L2.St → Hp → Prop}, (∀ S σ env H, At B S H → Rel B.H0 S H σ env → P env → P' σ H) → ∀ S σ env H, At B S H → Rel B.H0 S H σ env → P (env.set i .no) → P' (σ.set i none) H := fun f S σ env H a r p => f S _ _ H a (r.drop_ i none) p
  exact ⟨x, De.gone i, B, S', env.set i (.xn a dx x), rx.1, hc, ⟨gone l.nx, gone l.bk, gone l.ct, l.rt, xl0⟩, at_.step s1 g1, (r.step s1).put_xn rx.2, hk a dx⟩
theorem ds_tryS {j : Nat} {y : Str} {p2 : Pos} (T : XTab X.K X.mg base cs ms fs) (hs : X.stack = X.env :: X.outer) (hf : X.env.frame = some X.env.locals) (hN : X.N.Nodup) (hi : X.N[i]? = some n) (hln : X.env.kindOf n = some .local) (hg : Gl X base) (hdb : (base == ("__debug__" : Str)) = false)
    (hj : X.N[j]? = some y) (hy : Loc X.env.scope y) (hfy : X.fn y = true ∨ X.env.scope.names.lookup y = some .local) (hsw : swapsWith e (some (.Name y p2)) p1.line X.env = pure false)
    (hb : DXt X e de) (hsu : ∀ a oe C dx x pn, Cau X ms fs a oe C dx x → DSs (X.suite a ((a, oe) :: pn)) E0 (b₀ :: suite) (hd a dx x)) :
    DS X E (.Try [.Assign [.Name y p2] e p1] [.ExceptHandler (some (.Name base np)) (some n) (b₀ :: suite) pos'] [] [] pos) (dTryS j i cs de hd) := by
  obtain ⟨B0, hB, hall⟩ := id T.b
  obtain ⟨t, p, q⟩ := hb.run
  refine ⟨_, ps_try_as (i := i) (c := .ref B0) (tb := fun W => tAsg (t W) (gName j)) (ts := tSuite X cs hd) (Wout := fun _ _ _ _ => False) hs hf hN hi hln ⟨hg, hdb, .inl hB⟩ takes0 (fun W pn xe tk _ => pss_one (ps_set hN hj hy (p W pn xe tk) hsw hfy)) (tSuite_ok T hsu), fun B De Dn l S σ env H at_ r h => ?_⟩
  exact q _ _ S H σ env _ _ _ at_.g r (catch_link rfl hB hall l at_ r) h fun v H' S' x s1 g1 rv hx => l.nx S' _ _ H' (at_.step s1 g1) ((r.step s1).put rv) hx
end
section
variable {X : Cx} {ms fs : List Str} {a : Addr} {oe : Obj} {C : Addr} {dx : Option Addr} {x : Exn} {pn : List (Addr × Obj)} {E : XK}
theorem Cau.inst (c : Cau X ms fs a oe C dx x) {pins : List (Addr × Obj)} {σ : L2.St} {H : Hp} {s : Shared} (I : Inv (X.suite a ((a, oe) :: pn)) pins σ H s) (h : dx = none ∨ ∃ d gs, dx = some d ∧ H d = some (.xd gs)) : ∃ od, PySem.W.InstAt s.heap a oe C od := by
  obtain ⟨h1, _⟩ := I.pin (a, oe) (List.mem_append_left _ List.mem_cons_self)
  obtain ⟨vs, hv⟩ := c.f
  have no : PySem.W.notCls oe = true := by unfold PySem.W.notCls; rw [hv] <;> rfl
  rcases h with h | ⟨d, gs, h, hx⟩
  · exact ⟨none, h1, c.z.1, no, by rw [c.z.2, h]; trivial⟩
  · have ok : ObjOk X.prog X.w H s.heap d (.xd gs) := I.hok d _ hx
    obtain ⟨mA, hns, _⟩ := ok
    obtain ⟨od, ho, _⟩ := lookIn_ns hns
    exact ⟨some od, h1, c.z.1, no, by rw [c.z.2, h]; exact ho⟩
theorem Cau.kit (c : Cau X ms fs a oe C dx x) {od : Option Obj} : PySem.W.KitX X.K (.ref a) (.ref C) (fun h => PySem.W.InstAt h a oe C od) := by
  obtain ⟨B, k⟩ := c.c
  have q := k.k
  have hcl : (PySem.W.clsIn X.K C).isSome = true := by
    have hd := q.hd
    unfold PySem.W.hasDictIn at hd
    cases e : PySem.W.clsIn X.K C with
    | none => rw [e] at hd; cases hd
    | some cd => rfl
  exact PySem.W.kitx_exc hcl q.hg q.hk q.hs q.ha q.hn q.ht q.hm
def rIsD (K : PySem.W.Frag) (C a : Addr) (dx : Option Addr) : List V → Hp → VK → Prop := fun xs H Q => (dx = none ∨ ∃ d gs, dx = some d ∧ H d = some (.xd gs)) ∧
  ((∃ (c : V) (cv : Value) (b : Bool), xs = [.ref a, c] ∧ (∀ u, RelV c u → u = cv) ∧ PySem.W.kitOne K (.ref C) cv = some b ∧ Q (.bl b) H) ∨
   (∃ (tp : Addr) (cv : List V) (us : List Value) (b : Bool), xs = [.ref a, .ref tp] ∧ H tp = some (.tup cv) ∧ Paired ClsV cv us ∧ PySem.W.kitAny K (.ref C) us = some b ∧ Q (.bl b) H))
theorem call_isD (c : Cau X ms fs a oe C dx x) : CallR (X.suite a ((a, oe) :: pn)) (.builtin "isinstance") (rIsD X.K C a dx) := by
  intro pins s σ H zs us Q I rz h
  obtain ⟨hdx, h⟩ := h
  obtain ⟨od, J⟩ := c.inst I hdx
  rcases h with ⟨v, cv, b, rfl, hcv, ek, q⟩ | ⟨tp, cv, ws, b, rfl, hT, hp, ek, q⟩
  · obtain ⟨u1, u2, rfl, r1, r2⟩ := vals2 rz
    cases (show u1 = Value.ref a from r1)
    rw [hcv _ r2]
    exact PySem.W.kia_one c.kit I.kIn J ek (fun z => nomatch z) fun tk => ⟨.bl b, H, I.kept (t' := tk) fun _ _ z => z, rfl, q⟩
  · obtain ⟨u1, u2, rfl, r1, r2⟩ := vals2 rz
    cases (show u1 = Value.ref a from r1)
    cases (show u2 = Value.ref tp from r2)
    obtain ⟨_, its, rv, o, o1, o2, n, o3⟩ := (show ObjOk X.prog X.w H s.heap tp (.tup cv) from I.hok tp _ hT)
    have e3 := ClsV.all hp rv
    obtain ⟨oc, odd, dt, sl⟩ := o
    simp only at o2 o3
    subst e3 o2 o3
    exact PySem.W.kia_tup c.kit I.kIn J o1 ek (fun z => nomatch z) fun tk => ⟨.bl b, H, I.kept (t' := tk) fun _ _ z => z, rfl, q⟩
theorem xd_or {S : Sta} {H : Hp} (h : XD S H dx x) : dx = none ∨ ∃ d gs, dx = some d ∧ H d = some (.xd gs) := by
  rcases h with h | ⟨d, gs, h1, h2, _⟩
  · exact .inl h.2
  · exact .inr ⟨d, gs, h1, h2⟩
def dIsX (i : Nat) (a : Addr) (dx : Option Addr) (x : Exn) (b : Bool) : DT_ := fun env Q _ => env[i]? = some (.xn a dx x) ∧ Q (.bl b)
theorem de_isX (c : Cau X ms fs a oe C dx x) (i : Nat) {n m : Str} {p p1 p2 pos : Pos} (hm : m ∈ ms) (hN : X.N[i]? = some n) (hv : Vis X.env.scope n) (hd : (n == ("__debug__" : Str)) = false) (hcd : (n == ("__classdict__" : Str)) = false) (hgI : Gl X "isinstance") (hmI : X.mg "isinstance" = none) (hg : Gl X m) (hdm : (m == ("__debug__" : Str)) = false)
    (na : starEach [.Name n p1, .Name m p2] X.env = (false, eval (.Name n p1) X.env) :: starEach [.Name m p2] X.env := by rfl) (nb : starEach [.Name m p2] X.env = (false, eval (.Name m p2) X.env) :: starEach [] X.env := by rfl) :
    DE (X.suite a ((a, oe) :: pn)) E (.Call (.Name "isinstance" p) [.Name n p1, .Name m p2] [] pos) (dIsX i a dx x (isx x.cls m)) := by
  obtain ⟨B, k⟩ := c.c
  obtain ⟨Dm, e1, e2⟩ := k.t m hm
  refine ⟨_, pe_callB (call_isD c) hgI hmI boot_isinstance (pa_cons (pe_var hN hv hd hcd) (pa_cons (pe_glob (v := .ref Dm) hg e1 rfl hdm) pa_nil nb) na) (by decide) (by decide) na, fun Z S H σ env Q Qd Ed g r l h k => ?_⟩
  obtain ⟨h1, h2⟩ := h
  obtain ⟨q1, q2⟩ := r.at_ i _ h1
  exact ⟨_, q1, xd_or q2, .inl ⟨.ref Dm, .ref Dm, _, rfl, fun u ru => ru, e2, k.now g (.bl _) h2⟩⟩
theorem de_isV (c : Cau X ms fs a oe C dx x) (i : Nat) {n : Str} {p p1 p2 pos : Pos} (hN : X.N[i]? = some n) (hv : Vis X.env.scope n) (hd : (n == ("__debug__" : Str)) = false) (hcd : (n == ("__classdict__" : Str)) = false) (hgI : Gl X "isinstance") (hmI : X.mg "isinstance" = none) (hg : Gl X "ValueError") (hmV : X.mg "ValueError" = none)
    (na : starEach [.Name n p1, .Name "ValueError" p2] X.env = (false, eval (.Name n p1) X.env) :: starEach [.Name "ValueError" p2] X.env := by rfl) (nb : starEach [.Name "ValueError" p2] X.env = (false, eval (.Name "ValueError" p2) X.env) :: starEach [] X.env := by rfl) :
    DE (X.suite a ((a, oe) :: pn)) E (.Call (.Name "isinstance" p) [.Name n p1, .Name "ValueError" p2] [] pos) (dIsX i a dx x true) := by
  obtain ⟨B, k⟩ := c.c
  have e2 := k.ve
  refine ⟨_, pe_callB (call_isD c) hgI hmI boot_isinstance (pa_cons (pe_var hN hv hd hcd) (pa_cons (pe_bltn (v := .ty "ValueError") hg hmV (by decide +kernel) rfl (by decide) (by decide)) pa_nil nb) na) (by decide) (by decide) na, fun Z S H σ env Q Qd Ed g r l h k => ?_⟩
  obtain ⟨h1, h2⟩ := h
  obtain ⟨q1, q2⟩ := r.at_ i _ h1
  exact ⟨_, q1, xd_or q2, .inl ⟨.ty "ValueError", .type "ValueError", _, rfl, fun u ru => ru, e2, k.now g (.bl _) h2⟩⟩
structure DTup (X : Cx) (mg : Str → Option Value) (K : PySem.W.Frag) (C : Addr) (n : Str) (es : List Expr) (b : Bool) : Prop where
  run : ∃ (t : TA) (cs : List V) (us : List Value), PA X es t ∧ Paired ClsV cs us ∧ cs.length = es.length ∧ PySem.W.kitAny K (.ref C) us = some b ∧ ∀ σ H Q, Q cs H → t σ H Q
theorem dt_nil {X : Cx} {mg : Str → Option Value} {K : PySem.W.Frag} {C : Addr} {n : Str} : DTup X mg K C n [] false := ⟨_, [], [], pa_nil, .nil, rfl, kitAny_nil, fun _ _ _ h => h⟩
theorem dt_cons {X : Cx} {C : Addr} {n m : Str} {p : Pos} {es : List Expr} {b : Bool} (h : ∃ D, X.mg m = some (.ref D) ∧ PySem.W.kitOne X.K (.ref C) (.ref D) = some (isx n m)) (hr : DTup X X.mg X.K C n es b) (hg : Gl X m) (hdm : (m == ("__debug__" : Str)) = false)
    (hs : starEach (.Name m p :: es) X.env = (false, eval (.Name m p) X.env) :: starEach es X.env := by rfl) : DTup X X.mg X.K C n (.Name m p :: es) (isx n m || b) := by
  obtain ⟨D, e1, e2⟩ := h
  obtain ⟨t, cs, us, pa, pr, len, ek, q⟩ := hr.run
  exact ⟨_, .ref D :: cs, .ref D :: us, pa_cons (pe_glob (v := .ref D) hg e1 rfl hdm) pa hs, .cons (.own D) pr, by rw [List.length_cons, List.length_cons, len], kitAny_cons e2 (fun z => by rw [z, Bool.false_or]; exact ek) (fun z => by rw [z]; rfl), fun σ H Q h => q σ H _ h⟩
theorem de_isT (c : Cau X ms fs a oe C dx x) (i : Nat) {n : Str} {b : Bool} {p p1 p2 pos : Pos} {es : List Expr} {k2} (hN : X.N[i]? = some n) (hv : Vis X.env.scope n) (hd : (n == ("__debug__" : Str)) = false) (hcd : (n == ("__classdict__" : Str)) = false) (hgI : Gl X "isinstance") (hmI : X.mg "isinstance" = none)
    (ht : DTup (X.suite a ((a, oe) :: pn)) X.mg X.K C x.cls es b) (hl : es.length ≤ 90 := by decide)
    (na : starEach [.Name n p1, .Tuple es k2 p2] X.env = (false, eval (.Name n p1) X.env) :: starEach [.Tuple es k2 p2] X.env := by rfl) (nb : starEach [.Tuple es k2 p2] X.env = (false, eval (.Tuple es k2 p2) X.env) :: starEach [] X.env := by rfl) :
    DE (X.suite a ((a, oe) :: pn)) E (.Call (.Name "isinstance" p) [.Name n p1, .Tuple es k2 p2] [] pos) (dIsX i a dx x b) := by
  obtain ⟨t, cs, us, pa, pr, len, ek, q⟩ := ht.run
  refine ⟨_, pe_callB (call_isD c) hgI hmI boot_isinstance (pa_cons (pe_var hN hv hd hcd) (pa_cons (pe_tup pa) pa_nil nb) na) (by decide) (by decide) na, fun Z S H σ env Q Qd Ed g r l h k => ?_⟩
  obtain ⟨h1, h2⟩ := h
  obtain ⟨q1, q2⟩ := r.at_ i _ h1
  refine ⟨_, q1, q _ _ _ ⟨by rw [sizeLine_eq]; omega, fun tp htp => ?_⟩⟩
  obtain ⟨s1, g1⟩ := step_own g (o := HO.tup cs) htp
  exact ⟨xd_or (q2.step s1), .inr ⟨tp, cs, us, b, rfl, upd_same, pr, ek, (k.step s1 g1).now g1 (.bl _) h2⟩⟩
def dFld (i : Nat) (a : Addr) (dx : Option Addr) (x : Exn) (f : Str) : DT_ := fun env Q _ => env[i]? = some (.xn a dx x) ∧ ∃ v, x.fs.lookup f = some v ∧ Q v
theorem paired_lookup {S : Sta} {f : Str} : ∀ {gs : List (Str × V)} {xs : List (Str × D)} {v : D}, Paired (fun (p : Str × V) (q : Str × D) => p.1 = q.1 ∧ Rp S.bx S.F p.2 q.2) gs xs → xs.lookup f = some v → ∃ u, gs.lookup f = some u ∧ Rp S.bx S.F u v
  | _, _, _, .nil, h => by cases h
  | _, _, v, @Paired.cons _ _ _ p q gs xs r t, h => by
    obtain ⟨k1, d1⟩ := p
    obtain ⟨k2, d2⟩ := q
    obtain ⟨e, rr⟩ := r
    simp only at e rr
    subst e
    rw [List.lookup_cons] at h ⊢
    cases hc : f == k1 with
    | true => rw [hc] at h; cases h; exact ⟨_, rfl, rr⟩
    | false => rw [hc] at h; exact paired_lookup t h
theorem de_fld (c : Cau X ms fs a oe C dx x) (i : Nat) {n f : Str} {p1 pos : Pos} (hf : f ∈ fs) (hN : X.N[i]? = some n) (hv : Vis X.env.scope n) (hd : (n == ("__debug__" : Str)) = false) (hcd : (n == ("__classdict__" : Str)) = false)
    (hb : attributeBase (.Name n p1) f X.env (eval (.Name n p1) X.env) = eval (.Name n p1) X.env := by rfl) : DE (X.suite a ((a, oe) :: pn)) E (.Attribute (.Name n p1) f pos) (dFld i a dx x f) := by
  obtain ⟨B, k⟩ := c.c
  refine ⟨_, pe_xf (X := X) (C := C) (cls := .ref C) (d := dx) ⟨k.k.hg, k.k.hk, k.k.hs, k.k.hd⟩ (k.f f hf) c.z c.f (pe_var (X := X.suite a ((a, oe) :: pn)) hN hv hd hcd) hb, fun Z S H σ env Q Qd Ed g r l h k => ?_⟩
  obtain ⟨h1, v, h2, h3⟩ := h
  obtain ⟨q1, q2⟩ := r.at_ i _ h1
  rcases q2 with ⟨z, _⟩ | ⟨d, gs, e1, e2, _, e4⟩
  · rw [z] at h2; cases h2
  · obtain ⟨u, e5, ru⟩ := paired_lookup e4 h2
    exact ⟨_, q1, rfl, rfl, d, gs, u, e1, e2, e5, k.now g ru h3⟩
end
section
variable {X : Cx}
end
section
variable {X : Cx} {k : Nat}
end
section
variable {X : Cx} {E : XK} {a b : Expr} {da db : DT_} {pos : Pos}
end
section
variable {X : Cx} {E : XK} {elt tg iter : Expr} {ifs : List Expr} {scope : Scope} {own : List (Str × Nat)} {pos : Pos} {vsg : List Nat} {di : DI_} {dg : DG_} {tt : DB_} {te : DT_}
theorem lf_of : ∀ {ys : List D}, (∀ y ∈ ys, lfD y = true) → lfL ys = true
  | [], _ => rfl
  | y :: r, h => by
    simp only [lfL, Bool.and_eq_true]
    exact ⟨h y (by simp), lf_of fun z hz => h z (by simp [hz])⟩
def dnLend (i : Nat) (d : DN_) : DN_ := fun env Q E => match env[i]? with
  | some (.own xs) => d (env.set i (.v (.ls xs))) (fun ys => (∀ y ∈ ys, lfD y = true) ∧ Q ys) (fun x => lfX x ∧ E x)
  | _ => d env Q E
theorem NSem.lend {mg : Str → Option Value} {t : TE} {d : DN_} (i : Nat) (q : NSem mg E t d) : NSem mg E t (dnLend i d) := fun Z S H σ env Q Qd Ed g r l h k => by
  unfold dnLend at h
  split at h
  · next xs ei =>
    obtain ⟨a, vs, e1, e2, e3, e4, e5, e6, _, r'⟩ := r.lend ei
    refine q Z (S.with a vs) H σ _ Q _ _ (frz_step g e2 e3 e4) r' (l.lend g e2 e3 e4) h fun p H' S' us ys s' g' h0 h1 h2 h3 rp hx => ?_
    obtain ⟨s2, g2, ep⟩ := thaw g e2 e3 e4 s' g'
    refine k p H' _ us ys s2 g2 h0 h1 ?_ h3 (RpL.lf ep rp (lf_of hx.1)) hx.2
    show cut S'.F a p = none
    unfold cut
    split
    · rfl
    · exact h2
  · exact q Z S H σ env Q Qd Ed g r l h k
end
section
variable {X : Cx} {E : XK} {pos : Pos}
end
section
variable {X : Cx} {E : XK} {pos : Pos} {a b : Expr} {da db : DT_}
def oN (f : Int → Int → Int) (x y : D) (Q : DK) : Prop := match x, y with
  | .it i, .it j => Q (.it (f i j))
  | .bl k, .it j => Q (.it (f (if k = true then (1 : Int) else 0) j))
  | _, _ => False
def oAddN := oN fun i j => i + j
def oSubN := oN fun i j => i - j
def oStrN (xs : List D) (Q : DK) : Prop := match xs with
  | [.it i] => i.natAbs.log2 < 1920 ∧ Q (.st (toString i))
  | [.bl k] => Q (.st (if k then "True" else "False"))
  | _ => False
end
section
variable {X : Cx} {k : Nat}
def oEqNilT (x y : D) (Q : DK) : Prop := match x, y with
  | .tp xs, .tp [] => Q (.bl xs.isEmpty)
  | _, _ => False
end
section
variable {X : Cx} {E : XK} {pos : Pos}
end
section
variable {X : Cx} {E : XK} {pos : Pos}
end
structure SrtD (ys : List D) : Prop where
  plain : plainDL ys = true
  alike : PySem.W.AllAlike (ys.map D.py)
  srt : PySem.W.Sortable (ys.map D.py)
  deep : ∀ y ∈ ys, Dl.deep y ≤ 150
  len : ys.length ≤ sizeLine
section
variable {X : Cx} {E : XK} {pos : Pos}
end
mutual
theorem toks_inj : ∀ (x y : PyData), PySem.W.alike x y = true → ∀ l m, PySem.W.keyToks x ++ l = PySem.W.keyToks y ++ m → x = y ∧ l = m
  | .none, y, h, l, m, e => by
    cases y <;> simp [PySem.W.alike] at h
    exact ⟨rfl, by simpa [PySem.W.keyToks] using e⟩
  | .bool a, y, h, l, m, e => by
    cases y <;> simp [PySem.W.alike] at h
    simp only [PySem.W.keyToks, List.cons_append, List.nil_append, List.cons.injEq, Sum.inl.injEq] at e
    refine ⟨?_, e.2⟩
    have := e.1
    rename_i b
    cases a <;> cases b <;> simp at this ⊢
  | .int a, y, h, l, m, e => by
    cases y <;> simp [PySem.W.alike] at h
    simp only [PySem.W.keyToks, List.cons_append, List.nil_append, List.cons.injEq, Sum.inl.injEq] at e
    exact ⟨by rw [e.1], e.2⟩
  | .str a, y, h, l, m, e => by
    cases y <;> simp [PySem.W.alike] at h
    simp only [PySem.W.keyToks, List.cons_append, List.nil_append, List.cons.injEq, Sum.inr.injEq] at e
    exact ⟨by rw [PySem.W.str_of_cps e.1], e.2⟩
  | .list xs, y, h, l, m, e => by
    cases y <;> simp [PySem.W.alike] at h
    simp only [PySem.W.keyToks] at e
    obtain ⟨e1, e2⟩ := toksL_inj xs _ h l m e
    exact ⟨by rw [e1], e2⟩
  | .tuple xs, y, h, l, m, e => by
    cases y <;> simp [PySem.W.alike] at h
    simp only [PySem.W.keyToks] at e
    obtain ⟨e1, e2⟩ := toksL_inj xs _ h l m e
    exact ⟨by rw [e1], e2⟩
  | .dict xs, y, h, l, m, e => by cases y <;> simp [PySem.W.alike] at h
theorem toksL_inj : ∀ (xs ys : List PyData), PySem.W.alikeAll xs ys = true → ∀ l m, PySem.W.keyToksAll xs ++ l = PySem.W.keyToksAll ys ++ m → xs = ys ∧ l = m
  | [], [], _, l, m, e => ⟨rfl, by simpa [PySem.W.keyToksAll] using e⟩
  | [], y :: ys, _, l, m, e => by simp [PySem.W.keyToksAll] at e
  | x :: xs, [], _, l, m, e => by simp [PySem.W.keyToksAll] at e
  | x :: xs, y :: ys, h, l, m, e => by
    obtain ⟨h1, h2⟩ := PySem.W.alike_all_cons h
    rw [PySem.W.toks_all_cons, PySem.W.toks_all_cons] at e
    simp only [List.cons_append, List.append_assoc, List.cons.injEq, true_and] at e
    obtain ⟨e1, e2⟩ := toks_inj x y h1 _ _ e
    obtain ⟨e3, e4⟩ := toksL_inj xs ys h2 _ _ e2
    exact ⟨by rw [e1, e3], e4⟩
end
section
variable {X : Cx} {E : XK} {pos : Pos} {a b e : Expr} {da db de : DT_}
theorem strs_rp {t : Option Bx} {F : Hp} : ∀ (ys : List Str), RpL t F (ys.map V.str) (ys.map D.st)
  | [] => .nil
  | y :: r => .cons (.st y) (strs_rp r)
theorem strs_of {t : Option Bx} {F : Hp} : ∀ {vs : List V} {ys : List Str}, RpL t F vs (ys.map D.st) → vs = ys.map V.str
  | _, [], h => by cases h; rfl
  | _, n :: r, h => by
    cases h with
    | cons h1 h2 => cases h1; rw [strs_of h2]; rfl
def dSplitN (da db : DT_) : DN_ := fun env Q E => da env (fun x => match x with
  | .st a => db env (fun y => match y with | .st b => (b.length == 0) = false ∧ a.length + 2 ≤ sizeLine ∧ Q ((Txt.split a b).map D.st) | _ => False) E
  | _ => False) E
theorem dn_split {apos : Pos} (ha : DE X E a da) (hb : DE X E b db) (hs : starEach [b] X.env = [(false, eval b X.env)] := by rfl) (hbase : attributeBase a "split" X.env (eval a X.env) = eval a X.env := by rfl)
    (hline : (apos.endLine == pos.line) = true := by rfl) : DN X E (.Call (.Attribute a "split" apos) [b] [] pos) (dSplitN da db) := by
  obtain ⟨ta, pa, qa⟩ := ha.run
  obtain ⟨tb, pb, qb⟩ := hb.run
  refine ⟨_, pe_split pa pb hs hbase hline, fun Z S H σ env Q Qd Ed g r l h k => ?_⟩
  refine qa Z S H σ env _ _ Ed g r l h fun x H1 S1 dx s1 g1 r1 h1 => ?_
  split at h1
  · cases r1
    refine ⟨⟨_, rfl⟩, qb Z S1 H1 σ env _ _ Ed g1 (r.step s1) (l.step s1 g1) h1 fun y H2 S2 dy s2 g2 r2 h2 => ?_⟩
    split at h2
    · cases r2
      refine ⟨_, _, rfl, rfl, h2.1, h2.2.1, fun p hp => ?_⟩
      obtain ⟨a1, a2, a3, a4, a5⟩ := own_new (vs := (Txt.split _ _).map V.str) (s1.trans g1 s2) g2 hp
      exact k p _ S2 _ _ a1 a2 a3 upd_same a4 a5 (strs_rp _) h2.2.2
    · exact h2.elim
  · exact h1.elim
def strsD : List D → Option (List Str)
  | [] => some []
  | .st i :: r => (strsD r).map (i :: ·)
  | _ => none
theorem strsD_map (ys : List Str) : strsD (ys.map D.st) = some ys := by
  induction ys with
  | nil => rfl
  | cons y r ih => show Option.map _ (strsD (r.map D.st)) = _; rw [ih]; rfl
theorem strsD_eq : ∀ {xs : List D} {ns : List Str}, strsD xs = some ns → xs = ns.map D.st
  | [], ns, h => by simp [strsD] at h; subst h; rfl
  | .st i :: r, ns, h => by
    simp only [strsD, Option.map_eq_some_iff] at h
    obtain ⟨ms, h1, rfl⟩ := h
    rw [strsD_eq h1]; rfl
  | .non :: _, _, h => by simp [strsD] at h
  | .bl _ :: _, _, h => by simp [strsD] at h
  | .it _ :: _, _, h => by simp [strsD] at h
  | .tp _ :: _, _, h => by simp [strsD] at h
  | .ls _ :: _, _, h => by simp [strsD] at h
  | .dc _ :: _, _, h => by simp [strsD] at h
  | .bx _ _ :: _, _, h => by simp [strsD] at h
def dJoin (da db : DT_) : DT_ := fun env Q E => da env (fun x => match x with
  | .st a => db env (fun y => match y with | .ls xs => ∃ ys, strsD xs = some ys ∧ (ys.map (·.length)).sum + ys.length * a.length ≤ 16777216 ∧ Q (.st (Txt.join a ys)) | _ => False) E
  | _ => False) E
theorem de_join {apos : Pos} (ha : DE X E a da) (hb : DE X E b db) (hs : starEach [b] X.env = [(false, eval b X.env)] := by rfl) (hbase : attributeBase a "join" X.env (eval a X.env) = eval a X.env := by rfl)
    (hline : (apos.endLine == pos.line) = true := by rfl) : DE X E (.Call (.Attribute a "join" apos) [b] [] pos) (dJoin da db) := by
  obtain ⟨ta, pa, qa⟩ := ha.run
  obtain ⟨tb, pb, qb⟩ := hb.run
  refine ⟨_, pe_join pa pb hs hbase hline, fun Z S H σ env Q Qd Ed g r l h k => ?_⟩
  refine qa Z S H σ env _ _ Ed g r l h fun x H1 S1 dx s1 g1 r1 h1 => ?_
  split at h1
  · cases r1
    refine ⟨⟨_, rfl⟩, qb Z S1 H1 σ env _ _ Ed g1 (r.step s1) (l.step s1 g1) h1 fun y H2 S2 dy s2 g2 r2 h2 => ?_⟩
    split at h2
    · obtain ⟨ys, e1, h3, h4⟩ := h2
      have e1 := strsD_eq e1
      subst e1
      cases r2 with
      | ls ea rr =>
        have := strs_of rr
        subst this
        exact ⟨_, _, ys, rfl, rfl, .inl (SqL.of (g2.fz _ _ ea)), h3, ((k.step s1 g1).step s2 g2).now g2 (.st _) h4⟩
    · exact h2.elim
  · exact h1.elim
def oIntS (xs : List D) (Q : DK) : Prop := match xs with | [.st a] => ∃ n, PySem.intText? a = some n ∧ a.length ≤ 640 ∧ Q (.it n) | _ => False
theorem de_intS {u : DA_} {p : Pos} (hg : Gl X "int") (hm : X.mg "int" = none) (ha : DA X E [e] u) (he : starEach [e] X.env = (false, eval e X.env) :: starEach [] X.env := by rfl) : DE X E (.Call (.Name "int" p) [e] [] pos) (dCB oIntS u) := by
  refine de_callTy call_int_str (fun S => ?_) hg hm (by decide +kernel) ha (by decide) (by decide) he rfl
  intro H vs ds Q Qd g r h k
  unfold oIntS at h
  split at h
  · cases r with
    | cons r1 r2 =>
      cases r2; cases r1
      obtain ⟨n, h1, h2, h3⟩ := h
      exact ⟨_, n, rfl, h1, h2, k.now g (.it _) h3⟩
  · exact h.elim
def sgn (s : Str) : Option Nat := match s.cps.toList with | [c] => some c | _ => none
theorem sgn_eq {s : Str} {c : Nat} (h : sgn s = some c) : s = ⟨#[c]⟩ := by
  unfold sgn at h
  split at h
  · next c' e =>
    cases h
    obtain ⟨cs⟩ := s
    have : cs = #[c] := Array.toList_inj.mp e
    rw [this]
  · cases h
def oInS (x y : D) (Q : DK) : Prop := match x, y with | .st a, .st z => ∃ c, sgn a = some c ∧ Q (.bl (decide (c ∈ z.cps.toList))) | _, _ => False
theorem od_inS (S : Sta) : OpD S (fun x y H Q => ∃ (c : Nat) (z : Str), x = .str ⟨#[c]⟩ ∧ y = .str z ∧ Q (.bl (decide (c ∈ z.cps.toList))) H) oInS := by
  intro H x y dx dy Q Qd g rx ry h k
  unfold oInS at h
  split at h
  · obtain ⟨c, e1, h⟩ := h
    have e1 := sgn_eq e1
    subst e1
    cases rx; cases ry
    exact ⟨c, _, rfl, rfl, k.now g (.bl _) h⟩
  · exact h.elim
theorem de_inS (ha : DE X E a da) (hb : DE X E b db) (hm : behindInMarks .In b = false := by first | exact nobehind _ (by decide) (by decide) | rfl) : DE X E (.Compare a [.In] [b] pos) (dOp oInS da db) := de_cmp op_in_sign od_inS ha hb hm
def fmtD (x : D) (Q : Str → Prop) : Prop := match x with
  | .st y => szOk y.length ∧ Q y
  | .it i => i.natAbs.log2 < 1920 ∧ Q (toString i)
  | _ => False
def dFmt (de : DT_) : DT_ := fun env Q E => de env (fun x => fmtD x fun y => Q (.st y)) E
theorem de_fmt (he : DE X E e de) : DE X E (.FormattedValue e (-1) none pos) (dFmt de) := by
  obtain ⟨t, p, q⟩ := he.run
  refine ⟨_, pe_fmt p, fun Z S H σ env Q Qd Ed g r l h k => ?_⟩
  refine q Z S H σ env _ _ Ed g r l h fun v H1 S1 x s1 g1 r1 h1 => ?_
  unfold fmtD at h1
  split at h1
  · cases r1
    exact .inl ⟨_, rfl, h1.1, (k.step s1 g1).now g1 (.st _) h1.2⟩
  · cases r1
    exact .inr ⟨_, rfl, h1.1, (k.step s1 g1).now g1 (.st _) h1.2⟩
  · exact h1.elim
abbrev DJ_ := Str → Env' → (Str → Prop) → EK → Prop
structure DJ (X : Cx) (E : XK) (es : List Expr) (d : DJ_) : Prop where
  run : ∃ ts, PJ X es ts ∧ ∀ acc Z S H σ env (Q : Str → Hp → Prop) (Qd : Str → Prop) Ed, Good S H → Rel Z S H σ env → XLink X.mg S H Ed E → d acc env Qd Ed →
    (∀ out H' S', Stp S H S' H' → Good S' H' → Qd out → Q out H') → tJs ts acc σ H Q
def djNil : DJ_ := fun acc _ Q _ => Q acc
def djCons (d : DT_) (u : DJ_) : DJ_ := fun acc env Q E => d env (fun x => match x with | .st y => szOk (acc ++ y).length ∧ u (acc ++ y) env Q E | _ => False) E
theorem dj_nil : DJ X E [] djNil := ⟨_, .nil, fun acc _ S H _ _ _ _ _ g _ _ h k => k acc H S (.refl S H) g h⟩
theorem dj_cons {es : List Expr} {u : DJ_} (he : DE X E e de) (hr : DJ X E es u) : DJ X E (e :: es) (djCons de u) := by
  obtain ⟨t, p, q⟩ := he.run
  obtain ⟨ts, ps, qs⟩ := hr.run
  refine ⟨_, .cons p ps, fun acc Z S H σ env Q Qd Ed g r l h k => ?_⟩
  refine q Z S H σ env _ _ Ed g r l h fun v H1 S1 x s1 g1 r1 h1 => ?_
  split at h1
  · cases r1
    exact ⟨_, rfl, h1.1, qs _ Z S1 H1 σ env _ _ Ed g1 (r.step s1) (l.step s1 g1) h1.2 fun out H2 S2 s2 g2 h2 => k out H2 S2 (s1.trans g1 s2) g2 h2⟩
  · exact h1.elim
def dFStr (u : DJ_) : DT_ := fun env Q E => u Str.empty env (fun y => Q (.st y)) E
theorem de_fstr {v1 v2 : Expr} {rest : List Expr} {u : DJ_} (h : DJ X E (v1 :: v2 :: rest) u) : DE X E (.JoinedStr (v1 :: v2 :: rest) pos) (dFStr u) := by
  obtain ⟨ts, p, q⟩ := h.run
  refine ⟨_, pe_joined p, fun Z S H σ env Q Qd Ed g r l h k => ?_⟩
  exact q Str.empty Z S H σ env _ _ Ed g r l h fun out H1 S1 s1 g1 h1 => k _ H1 S1 _ s1 g1 (.st _) h1
def sgnsD (x : Str) : List D := x.cps.toList.map fun c => D.st ⟨#[c]⟩
theorem wlk_s {t : Option Bx} {F : Hp} {x : Str} : Wlk t F (Its x) (sgnsD x) := by
  intro S H le g i
  refine ⟨fun d hd => ?_, fun hi => ?_⟩
  · unfold sgnsD at hd
    rw [List.getElem?_map] at hd
    have e0 : x.cps.toList[i]? = x.cps[i]? := by rw [Array.getElem?_toList]
    rw [e0] at hd
    cases ec : x.cps[i]? with
    | none => rw [ec] at hd; cases hd
    | some c =>
      rw [ec] at hd
      cases hd
      refine ⟨(Array.getElem?_eq_some_iff.mp ec).1, fun v H2 hy => ?_⟩
      obtain ⟨rfl, c', e', rfl⟩ := hy
      rw [ec] at e'; cases e'
      exact ⟨S, .refl _ _, g, .st _⟩
  · show x.cps.size ≤ i
    unfold sgnsD at hi
    rw [List.length_map, Array.length_toList] at hi
    omega
def dSgns (da : DT_) : DI_ := fun env R E => da env (fun x => match x with | .st z => R (sgnsD z) | _ => False) E
theorem di_sgns {tg : Expr} (ha : DE X E a da) : DI X E tg a (dSgns da) := by
  obtain ⟨t, p, q⟩ := ha.run
  refine ⟨_, pi_str p, fun Z S H σ env R Rd Ed g r l h k => ?_⟩
  refine q Z S H σ env _ _ Ed g r l h fun v H1 S1 x s1 g1 r1 h1 => ?_
  split at h1
  · cases r1
    exact ⟨_, rfl, k _ H1 S1 _ s1 g1 wlk_s h1⟩
  · exact h1.elim
end
section
variable {X : Cx} {E : XK} {pos : Pos} {a b e : Expr} {da db de : DT_}
theorem op_mulTx : OpR X (binaryOp .Mult) (fun x y H Q => ∃ z n, x = .str z ∧ y = .int n ∧ (0 ≤ n ∧ n ≤ 16777216 ∧ z.length * n.toNat ≤ 16777216) ∧ Q (.str (PySem.Txt.mul z n)) H) := by
  intro pins s σ H x y v u Q I rx ry h
  obtain ⟨z, n, rfl, rfl, ⟨h0, h1, h2⟩, q⟩ := h
  obtain ⟨t, rfl⟩ := rx
  obtain ⟨t2, rfl⟩ := ry
  have hok : MulOk z n := by
    have hz : n.toNat = 0 ∨ z.length ≤ 16777216 := by
      rcases Nat.eq_zero_or_pos n.toNat with e | e
      · exact .inl e
      · exact .inr (Nat.le_trans (Nat.le_mul_of_pos_right _ e) h2)
    exact mulOk_of z.length n.toNat (Nat.le_refl _) (by omega) (by omega) (by omega) h2
  exact PySem.SB.mul hok fun t' k => ⟨.str _, H, I.tok k, ⟨t', rfl⟩, q⟩
def oMulTx (x y : D) (Q : DK) : Prop := match x, y with
  | .st z, .it n => (0 ≤ n ∧ n ≤ 16777216 ∧ z.length * n.toNat ≤ 16777216) ∧ Q (.st (PySem.Txt.mul z n))
  | _, _ => False
theorem de_mulTx (ha : DE X E a da) (hb : DE X E b db) : DE X E (.BinOp a .Mult b pos) (dOp oMulTx da db) := de_bin op_mulTx (fun S H x y dx dy Q Qd g rx ry h k => by
  unfold oMulTx at h
  split at h
  · cases rx
    cases ry
    exact ⟨_, _, rfl, rfl, h.1, k _ _ _ _ (.refl S H) g (.st _) h.2⟩
  · exact h.elim) ha hb
def dCountS (da db : DT_) : DT_ := fun env Q E => da env (fun x => match x with
  | .st a => db env (fun y => match y with | .st b => Q (.it (PySem.Txt.count a b)) | _ => False) E
  | _ => False) E
theorem de_countS {apos : Pos} (ha : DE X E a da) (hb : DE X E b db) (hs : starEach [b] X.env = [(false, eval b X.env)] := by rfl) (hbase : attributeBase a "count" X.env (eval a X.env) = eval a X.env := by rfl)
    (hline : (apos.endLine == pos.line) = true := by rfl) : DE X E (.Call (.Attribute a "count" apos) [b] [] pos) (dCountS da db) := by
  obtain ⟨ta, pa, qa⟩ := ha.run
  obtain ⟨tb, pb, qb⟩ := hb.run
  refine ⟨_, pe_m1 PySem.F.slot_str_count PySem.F.type_str_count mt_count pa pb hs hbase hline, fun Z S H σ env Q Qd Ed g r l h k => ?_⟩
  refine qa Z S H σ env _ _ Ed g r l h fun x H1 S1 dx s1 g1 r1 h1 => ?_
  split at h1
  · cases r1
    refine ⟨⟨_, rfl⟩, qb Z S1 H1 σ env _ _ Ed g1 (r.step s1) (l.step s1 g1) h1 fun y H2 S2 dy s2 g2 r2 h2 => ?_⟩
    split at h2
    · cases r2
      exact ⟨_, _, rfl, rfl, ((k.step s1 g1).step s2 g2).now g2 (.it _) h2⟩
    · exact h2.elim
  · exact h1.elim
theorem mt_indexS : MtR X "str.index" (fun x xs H Q => ∃ a b i rest, x = .str a ∧ xs = [.str b] ∧ Builtin.Str.occurrences a b 0 a.length 1 = i :: rest ∧ Q (.int (i : Nat)) H) := by
  intro pins s σ H x xs v us Q I rx rs h
  obtain ⟨a, b, i, rest, rfl, rfl, ho, h⟩ := h
  obtain ⟨t, rfl⟩ := rx
  cases rs with
  | cons r1 rs =>
    cases rs
    obtain ⟨u, rfl⟩ := r1
    exact call_gives PySem.F.slot_str_index (typeIs_str _ _ _) PySem.F.entry_str_index (PySem.F.args_str_index_2 _ _) (gives_str_index a b t u i rest ho) ⟨.int i, H, I.tok _, ⟨_, rfl⟩, h⟩
def dIndexS (da db : DT_) : DT_ := fun env Q E => da env (fun x => match x with
  | .st a => db env (fun y => match y with | .st b => ∃ (i : Nat) (rest : List Nat), Builtin.Str.occurrences a b 0 a.length 1 = i :: rest ∧ Q (.it (i : Nat)) | _ => False) E
  | _ => False) E
theorem de_indexS {apos : Pos} (ha : DE X E a da) (hb : DE X E b db) (hs : starEach [b] X.env = [(false, eval b X.env)] := by rfl) (hbase : attributeBase a "index" X.env (eval a X.env) = eval a X.env := by rfl)
    (hline : (apos.endLine == pos.line) = true := by rfl) : DE X E (.Call (.Attribute a "index" apos) [b] [] pos) (dIndexS da db) := by
  obtain ⟨ta, pa, qa⟩ := ha.run
  obtain ⟨tb, pb, qb⟩ := hb.run
  refine ⟨_, pe_m1 PySem.F.slot_str_index PySem.F.type_str_index mt_indexS pa pb hs hbase hline, fun Z S H σ env Q Qd Ed g r l h k => ?_⟩
  refine qa Z S H σ env _ _ Ed g r l h fun x H1 S1 dx s1 g1 r1 h1 => ?_
  split at h1
  · cases r1
    refine ⟨⟨_, rfl⟩, qb Z S1 H1 σ env _ _ Ed g1 (r.step s1) (l.step s1 g1) h1 fun y H2 S2 dy s2 g2 r2 h2 => ?_⟩
    split at h2
    · obtain ⟨i, rest, ho, h2⟩ := h2
      cases r2
      exact ⟨_, _, i, rest, rfl, rfl, ho, ((k.step s1 g1).step s2 g2).now g2 (.it _) h2⟩
    · exact h2.elim
  · exact h1.elim
def oNotInS (x y : D) (Q : DK) : Prop := match x, y with | .st a, .st z => ∃ c, sgn a = some c ∧ Q (.bl (!decide (c ∈ z.cps.toList))) | _, _ => False
theorem od_notInS (S : Sta) : OpD S (fun x y H Q => ∃ (c : Nat) (z : Str), x = .str ⟨#[c]⟩ ∧ y = .str z ∧ Q (.bl (!decide (c ∈ z.cps.toList))) H) oNotInS := by
  intro H x y dx dy Q Qd g rx ry h k
  unfold oNotInS at h
  split at h
  · obtain ⟨c, e1, h⟩ := h
    have e1 := sgn_eq e1
    subst e1
    cases rx; cases ry
    exact ⟨c, _, rfl, rfl, k.now g (.bl _) h⟩
  · exact h.elim
theorem db_notInS (ha : DE X E a da) (hb : DE X E b db) (hm : behindInMarks .NotIn b = false := by first | exact nobehind _ (by decide) (by decide) | rfl) : DB X E (.Compare a [.NotIn] [b] pos) (dTst (dOp oNotInS da db)) := db_cmp op_notIn_sign od_notInS ha hb hm
end
def top (i : Nat) : Stmt := PySem.Challenge.pw_slipturns_k72_other_texts_refused.main.body.getD i (.Pass ⟨0, 0, 0, 0⟩)
abbrev s_is_integer : Stmt := top 12
abbrev s_debt_of : Stmt := top 13
abbrev s_debts : Stmt := top 14
abbrev s_number_in : Stmt := top 18
abbrev s_slip_text : Stmt := top 19
abbrev s_house_text : Stmt := top 20
abbrev s_book_text : Stmt := top 21
abbrev s_payments_text : Stmt := top 22
abbrev s_slip_in : Stmt := top 23
abbrev s_house_in : Stmt := top 24
abbrev s_words_of : Stmt := top 25
abbrev s_parse_book : Stmt := top 26
abbrev s_parse_payments : Stmt := top 27
abbrev s__law_opened : Stmt := top 29
abbrev s__law_draw : Stmt := top 30
abbrev s__law_one : Stmt := top 31
abbrev s__law_odd : Stmt := top 33
abbrev s__law_pile : Stmt := top 34
abbrev s__law_book : Stmt := top 35
abbrev s__law_debts : Stmt := top 36
abbrev s__law_payments : Stmt := top 37
abbrev s__law_told : Stmt := top 38
abbrev s__law_number : Stmt := top 39
abbrev s__law_house_of : Stmt := top 40
abbrev s__law_due_book : Stmt := top 41
abbrev s__law_due_payments : Stmt := top 42
abbrev s__law_changed : Stmt := top 43
abbrev s_law : Stmt := top 44
abbrev kGreat : Key := .inr "great"
abbrev kSmall : Key := .inr "small"
abbrev kTurn : Key := .inr "turn"
def B1 (b g s : Addr) (H : Hp) (gs ss : List Int) (t : Int) : Prop := H b = some (.dK [(kGreat, .ref g), (kSmall, .ref s), (kTurn, .int t)]) ∧ H g = some (.lst (gs.map V.int)) ∧ H s = some (.lst (ss.map V.int)) ∧ g ≠ s ∧
  (∀ n ∈ gs, 0 ≤ n) ∧ ss ≠ [] ∧ gs.length ≤ 100 ∧ ss.length ≤ 200
def b1 (b g s : Addr) : Bx where
  b := b
  k := false
  own := [b, g, s]
  inv := fun H => ∃ gs ss t, B1 b g s H gs ss t
  mem := List.mem_cons_self
  loc := fun H H' e _ ⟨gs, ss, t, h1, h2, h3, h4⟩ => ⟨gs, ss, t, by rw [e b (by simp)]; exact h1, by rw [e g (by simp)]; exact h2, by rw [e s (by simp)]; exact h3, h4⟩
  has := fun H ⟨gs, ss, t, h1, h2, h3, _⟩ a ha => by
    simp only [List.mem_cons, List.not_mem_nil, or_false] at ha
    rcases ha with rfl | rfl | rfl
    · exact ⟨_, h1⟩
    · exact ⟨_, h2⟩
    · exact ⟨_, h3⟩
  ty := fun H ⟨gs, ss, t, h1, _⟩ => by rw [if_neg Bool.false_ne_true]; exact ⟨_, h1⟩
theorem inv_bx {t : Option Bx} {F : Hp} {v : V} {k : Bool} {P : Bx → Prop} (r : Rp t F v (.bx k P)) : ∃ x, t = some x ∧ P x ∧ v = .ref x.b := by
  generalize e : D.bx k P = d at r
  cases r with
  | bx h p => cases e; exact ⟨_, h, p, rfl⟩
  | _ => cases e
theorem box_step {S : Sta} {H H' : Hp} {x : Bx} (g : Good S H) (e : S.bx = some x) (off : ∀ a o, H a = some o → a ∉ x.own → H' a = some o) (inv : x.inv H') : Stp S H S H' ∧ Good S H' := by
  refine ⟨⟨fun _ _ h => h, fun _ _ h => .inl h, rfl, fun a o h hb => off a o h fun ha => hb ⟨x, e, ha⟩⟩, ⟨fun a o h => off a o (g.fz a o h) fun ha => ?_, fun y ey => ?_, g.nb⟩⟩
  · have := g.nb a ⟨x, e, ha⟩
    rw [h] at this; cases this
  · rw [e] at ey; cases ey; exact inv
theorem atI_last {α : Type} (xs : List α) (x : α) : atI (xs ++ [x]) (-1) = some x := by
  unfold atI ixN
  have h0 : ¬ ((0 : Int) ≤ -1) := by decide
  rw [if_neg h0, if_pos (by rw [List.length_append]; simp; omega)]
  have e : ((-1 : Int) + ((xs ++ [x]).length : Nat)).toNat = xs.length := by rw [List.length_append]; simp; omega
  simp only [Option.bind_some, e]
  simp
theorem ixN_last (n : Nat) : ixN (n + 1) (-1) = some n := by
  unfold ixN
  have h0 : ¬ ((0 : Int) ≤ -1) := by decide
  rw [if_neg h0, if_pos (by omega)]
  congr 1
  omega
theorem list_last {α : Type} : ∀ xs : List α, xs ≠ [] → ∃ ys y, xs = ys ++ [y] := fun xs h => ⟨xs.dropLast, xs.getLast h, (List.dropLast_concat_getLast h).symm⟩
theorem dp_ints {K : PySem.W.Frag} {H : Hp} : ∀ ns : List Int, DpAll K H (ns.map V.int) (ns.map PyData.int)
  | [] => .nil
  | n :: r => .cons (.int n) (dp_ints r)
theorem lay_ints : ∀ ns : List Int, PyData.canLayAll0 (ns.map PyData.int) = true ∧ PyData.depthAll (ns.map PyData.int) = 0
  | [] => ⟨rfl, rfl⟩
  | n :: r => by
    obtain ⟨h1, h2⟩ := lay_ints r
    refine ⟨?_, ?_⟩
    · rw [List.map_cons]; simp only [PyData.canLayAll0, PyData.canLay0, h1, Bool.and_self]
    · rw [List.map_cons]; simp only [PyData.depthAll, PyData.depth, h2, Nat.max_self]
theorem shaped_ints (ns : List Int) : SeqAt.shaped (.list (ns.map PyData.int)) = true := by
  obtain ⟨h1, h2⟩ := lay_ints ns
  unfold SeqAt.shaped
  simp only [PyData.canLay0, PyData.depth, h1, h2, Bool.true_and, decide_eq_true_eq]
  omega
theorem eqv_nil (ns : List Int) : PyData.eqv (.list (ns.map PyData.int)) (.list []) = decide (ns = []) := by
  cases ns with
  | nil => rfl
  | cons n r => rfl
theorem B1.fresh {b g s p : Addr} {H : Hp} {gs ss : List Int} {t : Int} {o : HO} (h : B1 b g s H gs ss t) (hp : H p = none) : B1 b g s (upd H p o) gs ss t :=
  ⟨by rw [upd_ne (ne_of_none h.1 hp)]; exact h.1, by rw [upd_ne (ne_of_none h.2.1 hp)]; exact h.2.1, by rw [upd_ne (ne_of_none h.2.2.1 hp)]; exact h.2.2.1, h.2.2.2⟩
theorem B1.bg {b g s : Addr} {H : Hp} {gs ss : List Int} {t : Int} (h : B1 b g s H gs ss t) : b ≠ g := ne_of h.1 h.2.1 (by intro z; cases z)
theorem B1.bs {b g s : Addr} {H : Hp} {gs ss : List Int} {t : Int} (h : B1 b g s H gs ss t) : b ≠ s := ne_of h.1 h.2.2.1 (by intro z; cases z)
theorem B1.great {b g s : Addr} {H : Hp} {gs ss : List Int} {t : Int} (h : B1 b g s H gs ss t) {gs' : List Int} (h1 : ∀ n ∈ gs', 0 ≤ n) (h2 : gs'.length ≤ 100) : B1 b g s (upd H g (.lst (gs'.map V.int))) gs' ss t :=
  ⟨by rw [upd_ne h.bg]; exact h.1, upd_same, by rw [upd_ne (Ne.symm h.2.2.2.1)]; exact h.2.2.1, h.2.2.2.1, h1, h.2.2.2.2.2.1, h2, h.2.2.2.2.2.2.2⟩
theorem B1.turn {b g s : Addr} {H : Hp} {gs ss : List Int} {t : Int} (h : B1 b g s H gs ss t) (t' : Int) : B1 b g s (upd H b (.dK [(kGreat, .ref g), (kSmall, .ref s), (kTurn, .int t')])) gs ss t' :=
  ⟨upd_same, by rw [upd_ne (Ne.symm h.bg)]; exact h.2.1, by rw [upd_ne (Ne.symm h.bs)]; exact h.2.2.1, h.2.2.2⟩
theorem dget1 {H : Hp} {b : Addr} {kvs : List (Key × V)} {x : Str} {v : V} (e : H b = some (.dK kvs)) (h : valV kvs (.inr x) = some v) : DGet H b (.str x) (some v) := by
  have := DGet.k (k := .inr x) e
  rw [h] at this; exact this
theorem kgs : ¬ (kGreat = kSmall) := by decide +kernel
theorem kgt : ¬ (kGreat = kTurn) := by decide +kernel
theorem kst : ¬ (kSmall = kTurn) := by decide +kernel
theorem B1.getG {b g s : Addr} {H : Hp} {gs ss : List Int} {t : Int} (h : B1 b g s H gs ss t) : DGet H b (.str "great") (some (.ref g)) := dget1 h.1 (valV_pos rfl)
theorem B1.getS {b g s : Addr} {H : Hp} {gs ss : List Int} {t : Int} (h : B1 b g s H gs ss t) : DGet H b (.str "small") (some (.ref s)) := dget1 h.1 (by rw [valV_neg kgs]; exact valV_pos rfl)
theorem B1.getT {b g s : Addr} {H : Hp} {gs ss : List Int} {t : Int} (h : B1 b g s H gs ss t) : DGet H b (.str "turn") (some (.int t)) := dget1 h.1 (by rw [valV_neg kgt, valV_neg kst]; exact valV_pos rfl)
theorem B1.putT {b g s : Addr} {H : Hp} {gs ss : List Int} {t : Int} (h : B1 b g s H gs ss t) (t' : Int) : DPut H b (.str "turn") (.int t') (upd H b (.dK [(kGreat, .ref g), (kSmall, .ref s), (kTurn, .int t')])) := by
  have q := DPut.k (k := kTurn) (v := .int t') h.1 (by show 3 < sizeLine; decide)
  have e : putK [(kGreat, V.ref g), (kSmall, V.ref s), (kTurn, V.int t)] kTurn (.int t') = [(kGreat, .ref g), (kSmall, .ref s), (kTurn, .int t')] := by
    have h1 : ¬ (Str.ofString "great" = Str.ofString "turn") := by decide +kernel
    have h2 : ¬ (Str.ofString "small" = Str.ofString "turn") := by decide +kernel
    unfold putK
    simp [h1, h2]
  rw [e] at q
  exact q
theorem ix_last {K : PySem.W.Frag} {σ : L2.St} {H : Hp} {Q : VK} {g : Addr} {ys : List Int} {y : Int} {i : Nat} (e : σ[i]? = some (some (.ref g))) (h : H g = some (.lst ((ys ++ [y]).map V.int))) (q : Q (.int y) H) :
    tOp (rIxL K) (tVar i) (tUn (rU fun i => .int (-i)) (tC (.int 1))) σ H Q := ⟨_, e, 1, rfl, g, _, -1, _, rfl, rfl, SqL.of h, by rw [List.map_append]; exact atI_last _ _, q⟩
def IsB1 (x : Bx) : Prop := ∃ b g s, x = b1 b g s
abbrev dBox : D := .bx false IsB1
def spDraw : SpD := fun ds Q _ => ∃ many, ds = [dBox, .it many] ∧ 0 < many ∧ many < 2 ^ 200 ∧ ∀ r, 0 ≤ r → r < many → Q (.it r)
abbrev N_draw : List Str := ["_law_box", "_law_many", "_law_great", "_law_digit", "_law_cell", "_law_mixed"]
section
variable {P : Program} {w : World} {K : PySem.W.Frag} {mg : Str → Option Value} {base : Heap}
theorem sc_draw : FnScope N_draw ["_law_box", "_law_many"] (defScope s__law_draw) := ⟨rfl, rfl, rfl, by decide +kernel, rfl, by decide +kernel, by decide +kernel⟩
theorem g_draw {f : Addr} {fd : FuncData} (F : Fun K "_law_draw" "_law_draw" s__law_draw f fd) (hl : mg "len" = none) : HFn P w K mg base 1 f fd ["_law_box", "_law_many"]
    (fun vs H Q _ => ∃ b g s gs ss t many, vs = [.ref b, .int many] ∧ B1 b g s H gs ss t ∧ 0 < many ∧ many < 2 ^ 200 ∧ ∀ H' r gs' t', B1 b g s H' gs' ss t' → (∀ a o, H a = some o → a ∉ [b, g, s] → H' a = some o) → 0 ≤ r → r < many → Q (.int r) H') := by
  refine hfn_mk F sc_draw (fun vs H Q E ⟨_, _, _, _, _, _, _, e, _⟩ => by rw [e]; rfl) fun cdv A outer s0 H vs Q E hr hgd h => ?_
  obtain ⟨b, g, s, gs, ss, t, many, rfl, hB, hm, hm2, k⟩ := h
  have hu := hu_of hr
  have hu2 : (cxD P w K mg base N_draw "_law_draw" (defScope s__law_draw) f cdv A outer s0 H E).A.units + 64 < cLine := hr.units
  refine ⟨_, pss_cons (ps_set (i := 2) sc_draw.nd rfl (Or.inl rfl) (pe_dget hu (pv 0) pe_str (fun _ _ => rfl)))
    (pss_cons (ps_while (passes_of rfl) (pt_cmpR (L2.op_neD hu2) (pv 2) (pe_lst pa_nil) rfl)
      (pss_cons (ps_if (pt_cmpR op_gt (pe_ix ix_list (pv 2) (pe_un un_neg pe_int) (fun _ _ => rfl)) pe_int (nomark _))
        (pss_cons (ps_set (i := 3) sc_draw.nd rfl (Or.inl rfl) (pe_op op_mod (pe_ix ix_list (pv 2) (pe_un un_neg pe_int) (fun _ _ => rfl)) (pv 1)))
          (pss_cons (ps_asg (pe_op op_fdivW (pe_ix ix_list (pv 2) (pe_un un_neg pe_int) (fun _ _ => rfl)) (pv 1)) (pg_sub (pv 2) (pe_un un_neg pe_int) set_list))
            (pss_one (ps_ret (pv 3))))) pss_nil)
        (pss_one (ps_expr (pe_bm0 PySem.F.plainAttrs_list PySem.F.slot_list_pop PySem.F.type_list_pop mt_pop (pv 2))))))
    (pss_cons (ps_asg (pe_op op_add (pe_dget hu (pv 0) pe_str (fun _ _ => rfl)) pe_int) (pg_sub (pv 0) pe_str (set_dict hu)))
    (pss_cons (ps_set (i := 4) sc_draw.nd rfl (Or.inl rfl) (pe_ix ix_list (pe_dget hu (pv 0) pe_str (fun _ _ => rfl)) (pe_op op_mod (pe_dget hu (pv 0) pe_str (fun _ _ => rfl)) (pe_callB call_len (by rfl) hl PySem.boot_len (pa_cons (pe_dget hu (pv 0) pe_str (fun _ _ => rfl)) pa_nil))) (fun _ _ => rfl)))
    (pss_cons (ps_set (i := 5) sc_draw.nd rfl (Or.inl rfl) (pe_op op_mod (pe_op op_add (pe_op op_mul (pv 4) pe_int) (pe_op op_mul (pe_dget hu (pv 0) pe_str (fun _ _ => rfl)) pe_int)) pe_int))
    (pss_cons (ps_set (i := 5) sc_draw.nd rfl (Or.inl rfl) (pe_op op_mod (pe_op op_mul (pv 5) (pe_op op_add (pe_op op_fdivW (pv 5) pe_int) pe_int)) pe_int))
    (pss_one (ps_ret (pe_op op_mod (pe_op op_fdivW (pv 5) pe_int) (pv 1))))))))), ?_⟩
  have hlog : many.natAbs.log2 < 9000 := by
    by_cases z : many.natAbs = 0
    · rw [z]; decide
    · have h1 : many.natAbs < 2 ^ 200 := by omega
      exact Nat.lt_of_lt_of_le ((Nat.log2_lt z).mpr h1) (by decide)
  have hd : ∀ i, CDivW i many := fun _ => ⟨hm, hlog⟩
  refine ⟨_, rfl, b, _, rfl, hB.getG, ?_⟩
  refine ⟨fun m σ H' => ∃ gs' d c x, m = gs'.length ∧ σ = [some (.ref b), some (.int many), some (.ref g), d, c, x] ∧ B1 b g s H' gs' ss t ∧ ∀ a o, H a = some o → a ∉ [b, g, s] → H' a = some o,
    ⟨_, gs, none, none, none, rfl, rfl, hB, fun _ _ h _ => h⟩, ?_⟩
  rintro m σ H1 ⟨gs1, d, c, x, rfl, rfl, hB1, off⟩
  refine ⟨_, rfl, Nat.zero_le _, fun p hp => ?_⟩
  have hB2 := hB1.fresh (o := .lst []) hp
  have off2 : ∀ a o, H a = some o → a ∉ [b, g, s] → upd H1 p (.lst []) a = some o := fun a o h n => by
    have := off a o h n
    rw [upd_ne (ne_of_none this hp)]; exact this
  have hp2 : upd H1 p (.lst []) p = some (.lst []) := upd_same
  generalize upd H1 p (.lst []) = H2 at hB2 off2 hp2
  refine ⟨.list (gs1.map PyData.int), .list [], .lst (SqL.of hB2.2.1) (dp_ints gs1), ?_, shaped_ints gs1, rfl, _, rfl, ?_⟩
  · exact .lst (SqL.of hp2) .nil
  rw [eqv_nil]
  by_cases hz : gs1 = []
  · subst hz
    show if (!decide (([] : List Int) = [])) = true then _ else _
    rw [if_neg (by simp)]
    refine ⟨_, rfl, b, _, rfl, hB2.getT, t, 1, rfl, rfl, ?_⟩
    refine ⟨_, rfl, b, _, rfl, hB2.putT (t + 1), ?_⟩
    have hB3 := hB2.turn (t + 1)
    have off3 : ∀ a o, H a = some o → a ∉ [b, g, s] → upd H2 b (.dK [(kGreat, .ref g), (kSmall, .ref s), (kTurn, .int (t + 1))]) a = some o := fun a o h n => by
      rw [upd_ne fun z => n (by rw [z]; simp)]; exact off2 a o h n
    generalize upd H2 b (.dK [(kGreat, .ref g), (kSmall, .ref s), (kTurn, .int (t + 1))]) = H3 at hB3 off3
    have hs0 : 0 < ss.length := List.length_pos_iff.mpr hB3.2.2.2.2.2.1
    have hsl : (((ss.map V.int).length : Nat) : Int) = (ss.length : Int) := by rw [List.length_map]
    have hpos : (0 : Int) < ((ss.map V.int).length : Nat) := by rw [hsl]; omega
    have hmod : 0 ≤ (t + 1) % (((ss.map V.int).length : Nat) : Int) ∧ (t + 1) % (((ss.map V.int).length : Nat) : Int) < (((ss.map V.int).length : Nat) : Int) := ⟨Int.emod_nonneg _ (by omega), Int.emod_lt_of_pos _ hpos⟩
    obtain ⟨j, ej⟩ : ∃ j : Nat, (t + 1) % (((ss.map V.int).length : Nat) : Int) = (j : Nat) := ⟨((t + 1) % (((ss.map V.int).length : Nat) : Int)).toNat, by omega⟩
    have hj : j < ss.length := by rw [ej, hsl] at hmod; omega
    refine ⟨_, rfl, b, _, rfl, hB3.getS, _, rfl, b, _, rfl, hB3.getT, _, rfl, b, _, rfl, hB3.getS, _, _, rfl, .inl ⟨_, SqL.of hB3.2.2.1, rfl⟩, t + 1, _, rfl, rfl, hpos, ?_⟩
    refine ⟨s, _, _, .int ss[j], rfl, rfl, SqL.of hB3.2.2.1, by rw [ej]; exact atI_nat (by rw [List.getElem?_map, List.getElem?_eq_getElem hj]; rfl), ?_⟩
    generalize ss[j] = cell
    refine ⟨_, rfl, cell, 6364136223846793005, rfl, rfl, .inr (by decide), _, rfl, b, _, rfl, hB3.getT, t + 1, 1442695040888963407, rfl, rfl, .inr (by decide), _, _, rfl, rfl, _, 18446744073709551557, rfl, rfl, (by show (0 : Int) < 18446744073709551557; decide), ?_⟩
    have hx : ∀ z : Int, 0 ≤ z % 18446744073709551557 ∧ z % 18446744073709551557 < 18446744073709551557 := fun z => ⟨Int.emod_nonneg _ (by decide), Int.emod_lt_of_pos _ (by decide)⟩
    have h1 := hx (cell * 6364136223846793005 + (t + 1) * 1442695040888963407)
    obtain ⟨m1, em1⟩ : ∃ m1, (cell * 6364136223846793005 + (t + 1) * 1442695040888963407) % 18446744073709551557 = m1 := ⟨_, rfl⟩
    rw [em1] at h1
    refine ⟨_, rfl, _, rfl, m1, 4294967296, congrArg V.int em1, rfl, ⟨by decide, by decide +kernel⟩, _, 17, rfl, rfl, m1, _, congrArg V.int em1, rfl, .inl ⟨by omega, by omega⟩, _, 18446744073709551557, rfl, rfl, (by show (0 : Int) < 18446744073709551557; decide), ?_⟩
    refine ⟨_, rfl, _, 65536, rfl, rfl, ⟨by decide, by decide +kernel⟩, _, rfl, _, many, rfl, rfl, hm, ?_⟩
    exact k H3 _ [] (t + 1) hB3 off3 (Int.emod_nonneg _ (by omega)) (Int.emod_lt_of_pos _ hm)
  · show if (!decide (gs1 = [])) = true then _ else _
    rw [if_pos (by simp [hz])]
    obtain ⟨ys, y, rfl⟩ := list_last gs1 hz
    have hlen : ys.length + 1 ≤ 100 := by have := hB2.2.2.2.2.2.2.1; rw [List.length_append] at this; simpa using this
    have hy : 0 ≤ y := hB2.2.2.2.2.1 y (by simp)
    have hys : ∀ n ∈ ys, 0 ≤ n := fun n hn => hB2.2.2.2.2.1 n (List.mem_append_left _ hn)
    refine ⟨fun σ' H' => ∃ gs' d c x, gs'.length < (ys ++ [y]).length ∧ σ' = [some (.ref b), some (.int many), some (.ref g), d, c, x] ∧ B1 b g s H' gs' ss t ∧ ∀ a o, H a = some o → a ∉ [b, g, s] → H' a = some o,
      fun σ' H' ⟨gs', d, c, x, h1, h2, h3, h4⟩ => ⟨_, h1, gs', d, c, x, rfl, h2, h3, h4⟩, ?_⟩
    refine ix_last rfl hB2.2.1 ⟨y, 0, rfl, rfl, decide (0 < y), rfl, ?_⟩
    by_cases hy0 : 0 < y
    · rw [decide_eq_true hy0]
      refine L2.iteT ?_
      refine ix_last rfl hB2.2.1 ⟨_, rfl, y, many, rfl, rfl, hm, ?_⟩
      refine ix_last rfl hB2.2.1 ⟨_, rfl, y, many, rfl, rfl, hd y, ?_⟩
      refine ⟨_, rfl, 1, rfl, g, _, -1, ys.length, rfl, rfl, hB2.2.1, by rw [List.length_map, List.length_append]; exact ixN_last _, ?_⟩
      have e : ((ys ++ [y]).map V.int).set ys.length (.int (y / many)) = (ys ++ [y / many]).map V.int := by
        rw [List.map_append, List.map_append, List.set_append_right _ _ (by simp)]; simp
      refine ⟨_, rfl, ?_⟩
      have hB3 := hB2.great (gs' := ys ++ [y / many]) (fun n hn => by
        rcases List.mem_append.mp hn with z | z
        · exact hys n z
        · have : n = y / many := by simpa using z
          rw [this]; exact Int.ediv_nonneg hy (by omega)) (by rw [List.length_append]; simpa using hlen)
      have off3 : ∀ a o, H a = some o → a ∉ [b, g, s] → upd H2 g (.lst ((ys ++ [y / many]).map V.int)) a = some o := fun a o h n => by
        rw [upd_ne fun z => n (by rw [z]; simp)]; exact off2 a o h n
      show Q (.int (y % many)) (upd H2 g (.lst (((ys ++ [y]).map V.int).set ys.length (.int (y / many)))))
      rw [e]
      exact k _ _ _ _ hB3 off3 (Int.emod_nonneg _ (by omega)) (Int.emod_lt_of_pos _ hm)
    · rw [decide_eq_false hy0]
      refine L2.iteF ?_
      refine ⟨_, rfl, .inl ⟨rfl, _, SqL.of hB2.2.1⟩, g, _, .int y, rfl, rfl, hB2.2.1, ?_, ?_⟩
      · rw [List.map_append]; simp
      · have e : ((ys ++ [y]).map V.int).dropLast = ys.map V.int := by rw [List.map_append]; simp
        rw [e]
        refine ⟨ys, _, _, _, by simp, rfl, hB2.great hys (by omega), fun a o h n => ?_⟩
        rw [upd_ne fun z => n (by rw [z]; simp)]; exact off2 a o h n
theorem d_draw {f : Addr} {fd : FuncData} (F : Fun K "_law_draw" "_law_draw" s__law_draw f fd) (hl : mg "len" = none) : GFn P w K mg base 1 f fd ["_law_box", "_law_many"] spDraw := by
  refine GFn.of ⟨fun vs H Q E ⟨S, ds, Qd, Ed, g, rp, ⟨many, e, _⟩, _⟩ => by rw [rp.length, e]; rfl, fun A outer s H args us vs Q E hr hgd e0 hb rv h => ?_⟩ fun ds Q E ⟨many, e, _⟩ => by rw [e]; rfl
  obtain ⟨S, ds, Qd, Ed, g, rp, ⟨many, rfl, hm, hm2, k⟩, k0, l0⟩ := h
  refine (g_draw F hl).run A outer s H args us vs Q E hr hgd e0 hb rv ?_
  cases rp with
  | cons r1 r2 =>
    cases r2 with
    | cons r2 r3 =>
      cases r3
      cases r2
      obtain ⟨x, ex, ⟨b, g0, s0, rfl⟩, rfl⟩ := inv_bx r1
      obtain ⟨gs, ss, t, hB⟩ := g.bx _ ex
      refine ⟨b, g0, s0, gs, ss, t, many, rfl, hB, hm, hm2, fun H' r gs' t' hB' off h1 h2 => ?_⟩
      obtain ⟨st, g'⟩ := box_step g ex off ⟨gs', ss, t', hB'⟩
      exact k0 _ H' S _ st g' (.it r) (k r h1 h2)
theorem xl_none {mg : Str → Option Value} {S : Sta} {H : Hp} {E : XK} : XLink mg S H (fun _ => False) E := fun _ _ _ _ _ _ _ _ h => h.elim
def sNone : Sta := ⟨none, fun _ => none⟩
theorem good_none (H : Hp) : Good sNone H := ⟨fun _ _ e => (by have e' : (none : Option HO) = some _ := e; cases e'), fun _ e => (by have e' : (none : Option Bx) = some _ := e; cases e'), fun _ _ => rfl⟩
abbrev retVals : Stmt → List Expr | .Return (some (.Dict _ vs _)) _ => vs | _ => []
theorem rel_no {Z : Hp} {S : Sta} {H : Hp} (σ : L2.St) : Rel Z S H σ (List.replicate σ.length Sl.no) where
  len := by rw [List.length_replicate]
  at_ := fun i s e => by
    rw [List.getElem?_replicate] at e
    split at e
    · cases e; trivial
    · cases e
  sep := fun i j xs ys a _ e _ _ => by
    rw [List.getElem?_replicate] at e
    split at e <;> cases e
theorem cut_ints (ns : List Int) (lo hi : Option Int) : ∃ ms : List Int, cutV (ns.map V.int) lo hi = ms.map V.int ∧ ms = (ns.drop (HT.sIx ns.length 0 lo)).take (HT.sIx ns.length ns.length hi - HT.sIx ns.length 0 lo) :=
  ⟨_, by unfold cutV; rw [List.length_map, List.map_take, List.map_drop], rfl⟩
abbrev N_opened : List Str := ["_law_script", "_law_cells", "_law_small", "_law_great", "_law_cell"]
theorem sc_opened : FnScope N_opened ["_law_script"] (defScope s__law_opened) := ⟨rfl, rfl, rfl, by decide +kernel, rfl, by decide +kernel, by decide +kernel⟩
theorem g_opened {f : Addr} {fd : FuncData} (F : Fun K "_law_opened" "_law_opened" s__law_opened f fd) (hl : mg "abs" = none) (hi : mg "int" = none) : HFn P w K mg base 1 f fd ["_law_script"]
    (fun vs H Q _ => ∃ (a : Addr) (ns : List Int), vs = [.ref a] ∧ SqL K H a (ns.map V.int) ∧ ∀ H' b g s gs ss t, B1 b g s H' gs ss t → (∀ a o, H a = some o → H' a = some o) → H b = none → H g = none → H s = none → Q (.ref b) H') := by
  refine hfn_mk F sc_opened (fun vs H Q E ⟨_, _, e, _⟩ => by rw [e]; rfl) fun cdv A outer s0 H vs Q E hr hgd h => ?_
  obtain ⟨a, ns, rfl, hS, k⟩ := h
  have hu := hu_of hr
  have q2 : DS (cxD P w K mg base N_opened "_law_opened" (defScope s__law_opened) f cdv A outer s0 H E) E ((defBody s__law_opened).getD 1 (.Pass ⟨0, 0, 0, 0⟩)) _ :=
    ds_setLcN 2 rfl sc_opened.nd (di_seq (de_var 1)) (own := [("_law_cell", 4)]) (blkOk_by (by show blkC N_opened (defScope s__law_opened) _ _ = true; decide +kernel)) (vsg := [4]) (by decide) (fun s H C cl fp => dg_name 4 sc_opened.nd) (fun s H C cl fp => dts_one (db_lt (de_var 4) (de_pow de_int de_int))) (fun s H C cl fp => de_var 4) rfl
  have q3 : DS (cxD P w K mg base N_opened "_law_opened" (defScope s__law_opened) f cdv A outer s0 H E) E ((defBody s__law_opened).getD 2 (.Pass ⟨0, 0, 0, 0⟩)) _ :=
    ds_setLcO 3 rfl sc_opened.nd (di_seq (de_var 1)) (own := [("_law_cell", 4)]) (blkOk_by (by show blkC N_opened (defScope s__law_opened) _ _ = true; decide +kernel)) (vsg := [4]) (by decide) (fun s H C cl fp => dg_name 4 sc_opened.nd) (fun s H C cl fp => dts_one (db_ge (de_var 4) (de_pow de_int de_int))) (fun s H C cl fp => de_var 4) rfl
  have hlc : LcRaw (cxD P w K mg base N_opened "_law_opened" (defScope s__law_opened) f cdv A outer s0 H E) ((defBody s__law_opened).getD 0 (.Pass ⟨0, 0, 0, 0⟩)) 1 _ _ _ _ _ :=
    lcN_raw 1 rfl sc_opened.nd (pi_seq (pe_slice sl_list (pv 0) po_none (po_some pe_int))) (own := [("_law_cell", 4)]) (blkOk_by (by show blkC N_opened (defScope s__law_opened) _ _ = true; decide +kernel)) (vsg := [4]) (by decide) (fun s H C cl fp => dg_name 4 sc_opened.nd) (fun s H C cl fp => dts_nil) (fun s H C cl fp => de_abs rfl hl (da_cons (de_var 4) da_nil)) rfl
  have q1 : ∃ t, PS (cxD P w K mg base N_opened "_law_opened" (defScope s__law_opened) f cdv A outer s0 H E) ((defBody s__law_opened).getD 0 (.Pass ⟨0, 0, 0, 0⟩)) t ∧
      ∀ (Dn : Ends), (∀ S1 H1 p (cells : List Int), Stp sNone H S1 H1 → Good S1 H1 → Rp S1.bx S1.F (.ref p) (.ls (cells.map D.it)) → (∀ n ∈ cells, 0 ≤ n) → cells.length ≤ 61 → Dn.nx [some (.ref a), some (.ref p), none, none, none] H1) → t Dn (L2.start N_opened [.ref a]) H := by
    obtain ⟨t, p, q⟩ := hlc
    refine ⟨t, p, fun Dn kk => ?_⟩
    refine q Dn H sNone H (L2.start N_opened [.ref a]) (List.replicate 5 Sl.no) (fun xs => ∃ cells : List Int, xs = cells.map D.it ∧ (∀ n ∈ cells, 0 ≤ n) ∧ cells.length ≤ 61) (good_none H) (rel_no _) (fun R hR => ?_) fun p' H' S' xs st g' rp ⟨cells, e, hp, hl⟩ => ?_
    · obtain ⟨ms, e1, e2⟩ := cut_ints ns none (some 61)
      have hms : ms.length ≤ 61 := by
        rw [e2, List.length_take]
        refine Nat.le_trans (Nat.min_le_left _ _) ?_
        have e3 : HT.sIx ns.length ns.length (some 61) = min 61 ns.length := by
          show (if (61 : Int) < 0 then ((61 : Int) + (ns.length : Int)).toNat else min (61 : Int).toNat ns.length) = _
          rw [if_neg (by decide)]; rfl
        rw [e3]
        have : min 61 ns.length ≤ 61 := Nat.min_le_left _ _
        omega
      refine ⟨_, rfl, 61, rfl, a, _, rfl, hS, fun r hr0 => ⟨r, rfl, .inl ⟨⟨_, SqL.of upd_same⟩, ?_⟩⟩⟩
      obtain ⟨st, g'⟩ := step_new (good_none H) (o := .lst (cutV (ns.map V.int) none (some 61))) hr0
      refine hR _ _ _ (ms.map D.it) st g' (wlk_l (vs := cutV (ns.map V.int) none (some 61)) (by show upd _ r _ r = _; exact upd_same) (by rw [e1]; exact RpL.ints ms)) ?_
      refine lcD_map (fun x => match x with | .it n => .it (if n < 0 then -n else n) | d => d) _ (fun x hx Y hY => ?_) (by rw [List.length_map, sizeLine_eq]; omega) ⟨ms.map fun n => if n < 0 then -n else n, ?_, ?_, ?_⟩
      · obtain ⟨n, _, rfl⟩ := List.mem_map.mp hx
        exact hY
      · rw [List.map_map, List.map_map]; rfl
      · intro n hn
        obtain ⟨m, _, rfl⟩ := List.mem_map.mp hn
        split <;> omega
      · rw [List.length_map]; exact hms
    · subst e
      exact kk S' H' p' cells st g' rp hp hl
  obtain ⟨t1, p1, r1⟩ := q1
  obtain ⟨t2, p2, r2⟩ := q2.run
  obtain ⟨t3, p3, r3⟩ := q3.run
  have q4 : DN (cxD P w K mg base N_opened "_law_opened" (defScope s__law_opened) f cdv A outer s0 H E) E ((retVals ((defBody s__law_opened).getD 3 (.Pass ⟨0, 0, 0, 0⟩))).getD 1 (.Constant .none 0 ⟨0, 0, 0, 0⟩)) _ :=
    dn_cat (de_var 2) (de_mul (de_lst (da_cons de_int da_nil)) (de_int1 rfl hi (da_cons (de_eq hr (de_var 2) (de_lst da_nil)) da_nil)))
  obtain ⟨t4, p4, r4⟩ := q4.sem
  refine ⟨_, pss_cons p1 (pss_cons p2 (pss_cons p3 (pss_one (ps_ret (pe_disp (pps_cons pe_str (pv 3) (pps_cons pe_str p4 (pps_cons pe_str pe_int pps_nil))) rfl rfl (by simp) (by show 3 ≤ 15; decide)))))), ?_⟩
  refine r1 _ fun S1 H1 p cells st1 g1 rp hpos hlen => ?_
  have rel1 : Rel H1 S1 H1 [some (.ref a), some (.ref p), none, none, none] [.no, .v (.ls (cells.map D.it)), .no, .no, .no] := (rel_no [some (.ref a), none, none, none, none]).put (i := 1) (x := .ref p) rp
  refine r2 ⟨S1, H1, S1.F, S1.bx⟩ { nx := fun env => ∃ sm : List Int, env = [.no, .v (.ls (cells.map D.it)), .v (.ls (sm.map D.it)), .no, .no] ∧ sm.length ≤ 61, rt := fun _ => False, ex := fun _ => False } _
    ⟨fun S2 σ2 env2 H2 a2 rel2 ⟨sm, e2, hsm⟩ => ?_, fun _ _ _ _ _ _ h => h.elim, fun _ _ _ _ _ _ h => h.elim, fun _ _ _ _ _ _ h => h.elim, xl_none⟩ S1 _ _ H1 ⟨g1, .refl _ _, .refl _ _⟩ rel1 ?_
  · subst e2
    refine r3 ⟨S1, H1, S1.F, S1.bx⟩ { nx := fun env => ∃ gr : List Int, env = [.no, .v (.ls (cells.map D.it)), .v (.ls (sm.map D.it)), .own (gr.map D.it), .no] ∧ (∀ n ∈ gr, 0 ≤ n) ∧ gr.length ≤ 61, rt := fun _ => False, ex := fun _ => False } _
      ⟨fun S3 σ3 env3 H3 a3 rel3 ⟨gr, e3, hg0, hgr⟩ => ?_, fun _ _ _ _ _ _ h => h.elim, fun _ _ _ _ _ _ h => h.elim, fun _ _ _ _ _ _ h => h.elim, xl_none⟩ S2 _ _ H2 a2 rel2 ?_
    · subst e3
      intro d hd
      obtain ⟨s0', g0⟩ := step_own a3.g (o := HO.dK []) hd
      have nbx : S3.bx = none := a3.p.box.trans st1.box
      have rel4 := rel3.step s0'
      obtain ⟨gg, us, u1, u2, u3, u4, u5, u6⟩ := rel4.at_ 3 _ rfl
      have := rpl_ints u6
      subst this
      refine ⟨_, u1, ?_⟩
      refine r4 H1 S3 _ σ3 _ _ (fun xs => ∃ ks : List Int, xs = ks.map D.it ∧ ks ≠ [] ∧ ks.length ≤ 200) (fun _ => False) g0 rel4 xl_none ?_ fun q H4 S4 vs xs st4 g4 q1 q2 q3 q4 q5 ⟨ks, ek, hk0, hk⟩ => ?_
      · -- small + [83] * int(small == [])
        simp only [dCatN, dVar, dOp, dLst, dCons, dNil, dC, dCB, oEq, oInt, oMul, List.getElem?_cons_succ, List.getElem?_cons_zero]
        refine ⟨by show 1 ≤ sizeLine; decide, by show 0 ≤ sizeLine; decide, cmp_ints_nil sm, ?_⟩
        rw [eq_ints_nil]
        by_cases hz : sm = []
        · subst hz
          rw [decide_eq_true rfl]
          refine ⟨by decide, by decide, by show 1 ≤ sizeLine; decide, by show 0 + 1 ≤ sizeLine; decide, [83], rfl, by simp, by show 1 ≤ 200; decide⟩
        · rw [decide_eq_false hz]
          refine ⟨by decide, by decide, by show 0 ≤ sizeLine; decide, by show (sm.map D.it).length + 0 ≤ sizeLine; rw [List.length_map, sizeLine_eq]; omega, sm, ?_, hz, by omega⟩
          show sm.map D.it ++ [] = _
          rw [List.append_nil]
      · subst ek
        have := rpl_ints q5
        subst this
        have hd4 : H4 d = some (.dK []) := st4.keep _ _ upd_same (fun z => by obtain ⟨x, ex, _⟩ := z; rw [nbx] at ex; cases ex)
        have hg4 : H4 gg = some (.lst (gr.map V.int)) := st4.keep _ _ u2 (fun z => by obtain ⟨x, ex, _⟩ := z; rw [nbx] at ex; cases ex)
        have hgd3 : gg ≠ d := fun z => by subst z; rw [upd_same] at u2; cases u2
        have hgq : gg ≠ q := fun z => by subst z; rw [u2] at q1; cases q1
        have hdq : d ≠ q := fun z => by subst z; rw [upd_same] at q1; cases q1
        refine ⟨hd4, [(kGreat, .ref gg), (kSmall, .ref q), (kTurn, .int 0)], rfl, by show 3 ≤ 15; decide, ?_⟩
        have em : mergeK [] [(kGreat, V.ref gg), (kSmall, V.ref q), (kTurn, V.int 0)] = [(kGreat, V.ref gg), (kSmall, V.ref q), (kTurn, V.int 0)] := by
          have h1 : ¬ (Str.ofString "great" = Str.ofString "turn") := by decide +kernel
          have h2 : ¬ (Str.ofString "small" = Str.ofString "turn") := by decide +kernel
          have h3 : ¬ (Str.ofString "great" = Str.ofString "small") := by decide +kernel
          simp [mergeK, putK, h1, h2, h3]
        rw [em]
        have all : ∀ b o, H b = some o → H3 b = some o := fun b o e => (st1.trans g1 a3.p).keep b o e (fun z => by obtain ⟨x, ex, _⟩ := z; cases ex)
        have free3 : ∀ b, H3 b = none → H b = none := fun b e => (st1.trans g1 a3.p).free a3.g e
        have hq3 : H3 q = none := s0'.free g0 q1
        refine k _ d gg q gr ks 0 ⟨upd_same, by rw [upd_ne hgd3]; exact hg4, by rw [upd_ne (Ne.symm hdq)]; exact q2, hgq, hg0, hk0, by omega, hk⟩ (fun b o e => ?_) (free3 d hd) (st1.free g1 u5) (free3 q hq3)
        have e3 := all b o e
        rw [upd_ne (ne_of_none e3 hd)]
        refine st4.keep _ _ (by rw [upd_ne (ne_of_none e3 hd)]; exact e3) (fun z => by obtain ⟨x, ex, _⟩ := z; rw [nbx] at ex; cases ex)
    · refine lc_filt (fun n => decide (10 ^ 18 ≤ n)) cells (fun n hn Y N h1 h2 => ?_) (by rw [sizeLine_eq]; omega) ⟨_, rfl, fun n hn => hpos n (List.mem_filter.mp hn).1, Nat.le_trans (List.length_filter_le _ _) hlen⟩
      refine ⟨⟨by decide, by decide, by decide⟩, ?_⟩
      show (match D.bl (decide ((10 : Int) ^ (18 : Int).toNat ≤ n)) with | .bl b => (match b with | true => Y (.it n) | false => N) | _ => False)
      by_cases hc : (10 : Int) ^ (18 : Int).toNat ≤ n
      · rw [decide_eq_true hc]; exact h1 (decide_eq_true hc)
      · rw [decide_eq_false hc]; exact h2 (decide_eq_false hc)
  · refine lc_filt (fun n => decide (n < 10 ^ 18)) cells (fun n hn Y N h1 h2 => ?_) (by rw [sizeLine_eq]; omega) ⟨_, rfl, Nat.le_trans (List.length_filter_le _ _) hlen⟩
    refine ⟨⟨by decide, by decide, by decide⟩, ?_⟩
    show (match D.bl (decide (n < (10 : Int) ^ (18 : Int).toNat)) with | .bl b => (match b with | true => Y (.it n) | false => N) | _ => False)
    by_cases hc : n < (10 : Int) ^ (18 : Int).toNat
    · rw [decide_eq_true hc]; exact h1 (decide_eq_true hc)
    · rw [decide_eq_false hc]; exact h2 (decide_eq_false hc)
end
abbrev Slip := Int × Int
abbrev House := Int × List Slip
def slipP (s : Slip) : D := .tp [.it s.1, .it s.2]
def pileP (ss : List Slip) : D := .tp (ss.map slipP)
def houseP (h : House) : D := .tp [.it h.1, pileP h.2]
def bookP (b : List House) : D := .tp (b.map houseP)
structure OkPile (many : Int) (ss : List Slip) : Prop where
  len : ss.length ≤ 6
  to : ∀ s ∈ ss, 0 ≤ s.1 ∧ s.1 < many
  am : ∀ s ∈ ss, 1 ≤ s.2 ∧ s.2 ≤ 1000000000
structure OkBook (b : List House) : Prop where
  pos : 1 ≤ b.length
  len : b.length ≤ 6
  purse : ∀ h ∈ b, 0 ≤ h.1 ∧ h.1 ≤ 1000000000000
  pile : ∀ h ∈ b, OkPile b.length h.2
def sumA (ss : List Slip) : Int := (ss.map (·.2)).sum
theorem sumA_cons (s : Slip) (r : List Slip) : sumA (s :: r) = s.2 + sumA r := by simp [sumA]
theorem sumA_append (a b : List Slip) : sumA (a ++ b) = sumA a + sumA b := by simp [sumA]
theorem sumA_nonneg : ∀ {ss : List Slip}, (∀ s ∈ ss, 1 ≤ s.2 ∧ s.2 ≤ 1000000000) → 0 ≤ sumA ss ∧ sumA ss ≤ 1000000000 * ss.length
  | [], _ => by simp [sumA]
  | s :: r, h => by
    have h1 := h s (by simp)
    have h2 := sumA_nonneg (ss := r) fun x hx => h x (List.mem_cons_of_mem _ hx)
    rw [sumA_cons, List.length_cons]
    constructor
    · omega
    · have : (1000000000 : Int) * ((r.length + 1 : Nat) : Int) = 1000000000 * r.length + 1000000000 := by rw [Int.natCast_add]; omega
      omega
theorem sm_slipP {many : Int} (hm : many ≤ 1000) {s : Slip} (h1 : 0 ≤ s.1 ∧ s.1 < many) (h2 : 1 ≤ s.2 ∧ s.2 ≤ 1000000000) : Sm 3 1 (slipP s) :=
  SmL.tp (m := 2) (h := 0) (SmL.cons (m := 1) (m' := 1) (.it (by omega) (by omega)) (.one (.it (by omega) (by omega))))
theorem sm_pileP {many : Int} (hm : many ≤ 1000) {ss : List Slip} (h : OkPile many ss) : Sm 19 2 (pileP ss) := by
  refine (SmL.tp (m := 18) (h := 1) (SmL.le (SmL.of (m := 3) 6 (by rw [List.length_map]; exact h.len) fun x hx => ?_) (by omega) (Nat.le_refl _))).le (by omega) (by omega)
  obtain ⟨s, hs, rfl⟩ := List.mem_map.mp hx
  exact sm_slipP hm (h.to s hs) (h.am s hs)
theorem sm_houseP {many : Int} (hm : many ≤ 1000) {h : House} (hp : 0 ≤ h.1 ∧ h.1 ≤ 1000000000000) (ho : OkPile many h.2) : Sm 21 3 (houseP h) :=
  SmL.tp (m := 20) (h := 2) (SmL.cons (m := 1) (m' := 19) (.it (by omega) (by omega)) (.one (sm_pileP hm ho)))
theorem sm_bookL {b : List House} (h : OkBook b) : SmL 126 3 (b.map houseP) := by
  have hl := h.len
  refine SmL.le (SmL.of (m := 21) 6 (by rw [List.length_map]; exact hl) fun x hx => ?_) (by omega) (Nat.le_refl _)
  obtain ⟨y, hy, rfl⟩ := List.mem_map.mp hx
  exact sm_houseP (by omega) (h.purse y hy) (h.pile y hy)
theorem sm_bookP {b : List House} (h : OkBook b) : Sm 127 4 (bookP b) := (sm_bookL h).tp
def PayOf : List House → List Int → Prop
  | [], [] => True
  | h :: b, p :: ps => 0 ≤ p ∧ p ≤ sumA h.2 ∧ PayOf b ps
  | _, _ => False
theorem PayOf.length : ∀ {b : List House} {ps : List Int}, PayOf b ps → ps.length = b.length
  | [], [], _ => rfl
  | _ :: b, _ :: ps, h => by rw [List.length_cons, List.length_cons, PayOf.length h.2.2]
  | [], _ :: _, h => h.elim
  | _ :: _, [], h => h.elim
abbrev W (α : Type) := (α → Prop) → EK → Prop
def pureW {α : Type} (x : α) : W α := fun Q _ => Q x
def bindW {α β : Type} (m : W α) (f : α → W β) : W β := fun Q E => m (fun x => f x Q E) E
def ifW {α : Type} (c : Bool) (a b : W α) : W α := fun Q E => if c = true then a Q E else b Q E
def failW {α : Type} : W α := fun _ _ => False
abbrev eI : Int → D := D.it
abbrev eB : Bool → D := D.bl
abbrev eS : Str → D := D.st
abbrev eA : D → D := fun d => d
abbrev eN : Unit → D := fun _ => D.non
def eT {α : Type} (e : α → D) (xs : List α) : D := .tp (xs.map e)
def eL {α : Type} (e : α → D) (xs : List α) : D := .ls (xs.map e)
def eP {α β : Type} (e : α → D) (f : β → D) (p : α × β) : D := .tp [e p.1, f p.2]
def e3 {α β γ : Type} (e : α → D) (f : β → D) (g : γ → D) (p : α × β × γ) : D := .tp [e p.1, f p.2.1, g p.2.2]
def e4 {α β γ δ : Type} (e : α → D) (f : β → D) (g : γ → D) (h : δ → D) (p : α × β × γ × δ) : D := .tp [e p.1, f p.2.1, g p.2.2.1, h p.2.2.2]
def eQ {α β : Type} (e : α → D) (f : β → D) (p : α × β) : D := .ls [e p.1, f p.2]
def eO {α : Type} (e : α → D) : Option α → D | none => .non | some x => e x
abbrev SPat := List (Option Sl)
structure Me (ps : SPat) (env : Env') : Prop where
  len : env.length = ps.length
  at_ : ∀ (i : Nat) (s : Sl), ps[i]? = some (some s) → env[i]? = some s
theorem Me.set {ps : SPat} {env : Env'} (m : Me ps env) (i : Nat) (s : Sl) : Me (ps.set i (some s)) (env.set i s) where
  len := by rw [List.length_set, List.length_set]; exact m.len
  at_ := fun j t h => by
    by_cases hj : j = i
    · subst hj
      have hl : j < ps.length := by
        have := (List.getElem?_eq_some_iff.mp h).1
        rwa [List.length_set] at this
      rw [List.getElem?_set_self hl] at h
      rw [List.getElem?_set_self (by rw [m.len]; exact hl)]
      cases h; rfl
    · rw [List.getElem?_set_ne (Ne.symm hj)] at h ⊢
      exact m.at_ j t h
theorem Me.hide {ps : SPat} {env : Env'} (m : Me ps env) (i : Nat) (s : Sl) : Me (ps.set i none) (env.set i s) where
  len := by rw [List.length_set, List.length_set]; exact m.len
  at_ := fun j t h => by
    by_cases hj : j = i
    · subst hj
      have hl : j < ps.length := by
        have := (List.getElem?_eq_some_iff.mp h).1
        rwa [List.length_set] at this
      rw [List.getElem?_set_self hl] at h
      cases h
    · rw [List.getElem?_set_ne (Ne.symm hj)] at h ⊢
      exact m.at_ j t h
def PSub : SPat → SPat → Prop
  | [], [] => True
  | none :: qs, _ :: ps => PSub qs ps
  | some s :: qs, p :: ps => p = some s ∧ PSub qs ps
  | _, _ => False
theorem Me.sub : ∀ {qs ps : SPat} {env : Env'}, PSub qs ps → Me ps env → Me qs env
  | [], [], _, _, m => m
  | none :: qs, p :: ps, [], _, m => by have := m.len; simp at this
  | none :: qs, p :: ps, e :: env, h, m => by
    have m' : Me ps env := ⟨by have := m.len; simpa using this, fun i s q => by have := m.at_ (i + 1) s (by simpa using q); simpa using this⟩
    have k := Me.sub (qs := qs) h m'
    refine ⟨by simp [k.len], fun i s q => ?_⟩
    cases i with
    | zero => simp at q
    | succ i => simpa using k.at_ i s (by simpa using q)
  | some t :: qs, p :: ps, [], h, m => by have := m.len; simp at this
  | some t :: qs, p :: ps, e :: env, h, m => by
    have m' : Me ps env := ⟨by have := m.len; simpa using this, fun i s q => by have := m.at_ (i + 1) s (by simpa using q); simpa using this⟩
    have k := Me.sub (qs := qs) h.2 m'
    refine ⟨by simp [k.len], fun i s q => ?_⟩
    cases i with
    | zero =>
      have e1 := m.at_ 0 t (by simp [h.1])
      simp at q; subst q; exact e1
    | succ i => simpa using k.at_ i s (by simpa using q)
def patOf (env : Env') : SPat := env.map some
theorem me_of (env : Env') : Me (patOf env) env := ⟨by simp [patOf], fun i s h => by
  unfold patOf at h
  rw [List.getElem?_map] at h
  cases e : env[i]? with
  | none => rw [e] at h; cases h
  | some t => rw [e] at h; simp at h; rw [h]⟩
def wipeP (ps : SPat) : List Nat → SPat
  | [] => ps
  | v :: vs => (wipeP ps vs).set v none
theorem Me.wipe {ps : SPat} {env : Env'} (m : Me ps env) : ∀ vs, Me (wipeP ps vs) (wipeD env vs)
  | [] => m
  | v :: vs => (Me.wipe m vs).hide v .no
def TE {α : Type} (ps : SPat) (d : DT_) (e : α → D) (w : W α) : Prop := ∀ env, Me ps env → ∀ (Q : DK) (E : EK) (R : α → Prop), (∀ r, R r → Q (e r)) → w R E → d env Q E
def TB (ps : SPat) (t : DB_) (w : W Bool) : Prop := ∀ env, Me ps env → ∀ (Q : Bool → Prop) (E : EK) (R : Bool → Prop), (∀ r, R r → Q r) → w R E → t env Q E
def TL {α : Type} (ps : SPat) (u : DA_) (e : α → D) (w : W (List α)) : Prop := ∀ env, Me ps env → ∀ (Q : List D → Prop) (E : EK) (R : List α → Prop), (∀ xs, R xs → Q (xs.map e)) → w R E → u env Q E
def TI {α : Type} (ps : SPat) (d : DI_) (e : α → D) (w : W (List α)) : Prop := ∀ env, Me ps env → ∀ (Q : List D → Prop) (E : EK) (R : List α → Prop), (∀ xs, R xs → Q (xs.map e)) → w R E → d env Q E
def TN {α : Type} (ps : SPat) (d : DN_) (e : α → D) (w : W (List α)) : Prop := ∀ env, Me ps env → ∀ (Q : List D → Prop) (E : EK) (R : List α → Prop), (∀ xs, R xs → Q (xs.map e)) → w R E → d env Q E
def TG (ps : SPat) (dg : DG_) (x : D) (ps1 : SPat) : Prop := ∀ env Q, Me ps env → (∀ env', Me ps1 env' → Q env') → dg x env Q
def TGs (ps : SPat) (dg : List D → Env' → (Env' → Prop) → Prop) (xs : List D) (ps1 : SPat) : Prop := ∀ env Q, Me ps env → (∀ env', Me ps1 env' → Q env') → dg xs env Q
def TP (ps : SPat) (d : DO_) (w : W (Option Int)) : Prop := ∀ env, Me ps env → ∀ (Q : Option Int → Prop) (E : EK) (R : Option Int → Prop), (∀ r, R r → Q r) → w R E → d env Q E
section
variable {α β γ δ : Type} {ps : SPat} {da db dc : DT_} {e : α → D} {f : β → D} {g : γ → D} {wa : W α} {wb : W β} {wc : W γ} {ta tb : DB_} {wt wu : W Bool} {u : DA_}
theorem te_var (i : Nat) {x : α} (h : ps[i]? = some (some (.v (e x)))) : TE ps (dVar i) e (pureW x) := fun env m Q E R hr q => by
  unfold dVar; rw [m.at_ i _ h]; exact hr _ q
theorem te_int (n : Int) : TE ps (dC (.it n)) eI (pureW n) := fun env m Q E R hr q => hr _ q
theorem te_bl (n : Bool) : TE ps (dC (.bl n)) eB (pureW n) := fun env m Q E R hr q => hr _ q
theorem te_str (n : Str) : TE ps (dC (.st n)) eS (pureW n) := fun env m Q E R hr q => hr _ q
theorem te_non : TE ps (dC .non) eN (pureW ()) := fun env m Q E R hr q => hr _ q
theorem te_co {e' : β → D} (c : α → β) (h : ∀ x, e x = e' (c x)) (ha : TE ps da e wa) : TE ps da e' (bindW wa fun x => pureW (c x)) := fun env m Q E R hr q =>
  ha env m Q E _ (fun r k => by rw [h r]; exact hr _ k) q
def getW (o : Option α) : W α := fun Q _ => ∃ x, o = some x ∧ Q x
theorem te_get {w : W (Option α)} (ha : TE ps da (eO e) w) : TE ps da e (bindW w getW) := fun env m Q E R hr q =>
  ha env m Q E _ (fun r k => by obtain ⟨x, rfl, h⟩ := k; exact hr _ h) q
def asW (e : α → D) (x : D) : W α := fun Q _ => ∃ y, x = e y ∧ Q y
theorem te_as {w : W D} (ha : TE ps da eA w) : TE ps da e (bindW w (asW e)) := fun env m Q E R hr q =>
  ha env m Q E _ (fun r k => by obtain ⟨x, rfl, h⟩ := k; exact hr _ h) q
def Op2 (o : D → D → DK → Prop) (e : α → D) (f : β → D) (g : γ → D) (op : α → β → W γ) : Prop := ∀ x y (Q : DK) E (R : γ → Prop), (∀ r, R r → Q (g r)) → op x y R E → o (e x) (f y) Q
theorem te_op {o : D → D → DK → Prop} {op : α → β → W γ} (h : Op2 o e f g op) (ha : TE ps da e wa) (hb : TE ps db f wb) : TE ps (dOp o da db) g (bindW wa fun x => bindW wb fun y => op x y) := fun env m Q E R hr q =>
  ha env m _ E _ (fun x q => hb env m _ E _ (fun y q => h x y Q E R hr q) q) q
def addI (x y : Int) : W Int := pureW (x + y)
def subI (x y : Int) : W Int := pureW (x - y)
def mulI (x y : Int) : W Int := fun Q _ => CMul x y ∧ Q (x * y)
def fdivI (x y : Int) : W Int := fun Q _ => CDivW x y ∧ Q (x / y)
def modI (x y : Int) : W Int := fun Q _ => 0 < y ∧ Q (x % y)
def powI (x y : Int) : W Int := fun Q _ => CPow x y ∧ Q (x ^ y.toNat)
def ltI (x y : Int) : W Bool := pureW (decide (x < y))
def leI (x y : Int) : W Bool := pureW (decide (x ≤ y))
def gtI (x y : Int) : W Bool := pureW (decide (y < x))
def geI (x y : Int) : W Bool := pureW (decide (y ≤ x))
def eqI (x y : Int) : W Bool := pureW (decide (x = y))
def neI (x y : Int) : W Bool := pureW (!decide (x = y))
def catW (x y : List α) : W (List α) := fun Q _ => szOk (x.length + y.length) ∧ Q (x ++ y)
def catS (x y : Str) : W Str := fun Q _ => szOk (x.length + y.length) ∧ Q (x ++ y)
def repT (x : List α) (j : Int) : W (List α) := fun Q _ => (-(2 ^ 63) ≤ j ∧ j ≤ 1000 ∧ x.length ≤ 1000) ∧ Q (List.replicate j.toNat x).flatten
def repL (x : List α) (j : Int) : W (List α) := fun Q _ => (-(2 ^ 63) ≤ j ∧ j < 2 ^ 63 ∧ szOk (x.length * j.toNat)) ∧ Q (List.replicate j.toNat x).flatten
theorem o_add : Op2 oAdd eI eI eI addI := fun x y Q E R hr q => hr _ q
theorem o_sub : Op2 oSub eI eI eI subI := fun x y Q E R hr q => hr _ q
theorem o_mul : Op2 oMulA eI eI eI mulI := fun x y Q E R hr q => ⟨q.1, hr _ q.2⟩
theorem o_mod : Op2 oMod eI eI eI modI := fun x y Q E R hr q => ⟨q.1, hr _ q.2⟩
theorem o_pow : Op2 oPow eI eI eI powI := fun x y Q E R hr q => ⟨q.1, hr _ q.2⟩
theorem o_lt : Op2 oLt eI eI eB ltI := fun x y Q E R hr q => hr _ q
theorem o_le : Op2 oLe eI eI eB leI := fun x y Q E R hr q => hr _ q
theorem o_gt : Op2 oGt eI eI eB gtI := fun x y Q E R hr q => hr _ q
theorem o_ge : Op2 oGe eI eI eB geI := fun x y Q E R hr q => hr _ q
theorem beq_dec (x y : Int) : (x == y) = decide (x = y) := by
  by_cases h : x = y
  · subst h; simp
  · simp [h]
theorem o_eqI : Op2 oEq eI eI eB eqI := fun x y Q E R hr q => ⟨rfl, by show Q (.bl (x == y)); rw [beq_dec]; exact hr _ q⟩
theorem o_neI : Op2 oNe eI eI eB neI := fun x y Q E R hr q => ⟨rfl, by show Q (.bl (!(x == y))); rw [beq_dec]; exact hr _ q⟩
theorem o_catL : Op2 oAdd (eL e) (eL e) (eL e) catW := fun x y Q E R hr q => ⟨by simpa using q.1, by have := hr _ q.2; unfold eL at this; rw [List.map_append] at this; exact this⟩
theorem o_catS : Op2 oAdd eS eS eS catS := fun x y Q E R hr q => ⟨q.1, hr _ q.2⟩
theorem map_rep (e : α → D) (x : List α) (n : Nat) : (List.replicate n x).flatten.map e = (List.replicate n (x.map e)).flatten := by
  induction n with
  | zero => simp
  | succ n ih => rw [List.replicate_succ, List.flatten_cons, List.map_append, ih, List.replicate_succ, List.flatten_cons]
theorem o_repT : Op2 oMulA (eT e) eI (eT e) repT := fun x y Q E R hr q => ⟨q.1.1, q.1.2.1, by simpa using q.1.2.2, by have := hr _ q.2; unfold eT at this; rw [map_rep] at this; exact this⟩
theorem o_repL : Op2 oMulA (eL e) eI (eL e) repL := fun x y Q E R hr q => ⟨q.1.1, q.1.2.1, by simpa using q.1.2.2, by have := hr _ q.2; unfold eL at this; rw [map_rep] at this; exact this⟩
def ixW (xs : List α) (i : Int) : W α := fun Q _ => ∃ x, atI xs i = some x ∧ Q x
theorem atI_map (e : α → D) (xs : List α) (i : Int) : atI (xs.map e) i = (atI xs i).map e := by
  unfold atI
  rw [List.length_map]
  cases ixN xs.length i with
  | none => rfl
  | some j => simp
theorem o_ixT : Op2 oIx (eT e) eI e ixW := fun x y Q E R hr q => by
  obtain ⟨z, h, k⟩ := q
  show match atI (x.map e) y with | some d => Q d | none => False
  rw [atI_map, h]; exact hr _ k
theorem o_ixL : Op2 oIx (eL e) eI e ixW := fun x y Q E R hr q => by
  obtain ⟨z, h, k⟩ := q
  show match atI (x.map e) y with | some d => Q d | none => False
  rw [atI_map, h]; exact hr _ k
end
section
variable {α β γ δ ε ζ η : Type} {ps : SPat} {da db dc dd d5 d6 : DT_} {e : α → D} {f : β → D} {g : γ → D} {h : δ → D} {wa : W α} {wb : W β} {wc : W γ} {wd : W δ} {ta tb : DB_} {wt wu : W Bool} {u : DA_}
theorem te_prj {e' : β → D} {k : Int} (c : α → β) (hc : ∀ x (Q : DK), Q (e' (c x)) → oIx (e x) (.it k) Q) (ha : TE ps da e wa) : TE ps (dOp oIx da (dC (.it k))) e' (bindW wa fun x => pureW (c x)) := fun env m Q E R hr q =>
  ha env m _ E _ (fun x q => hc x Q (hr _ q)) q
theorem tl_nil : TL ps dNil e (pureW []) := fun env m Q E R hr q => hr [] q
theorem tl_cons {wu : W (List α)} (ha : TE ps da e wa) (hu : TL ps u e wu) : TL ps (dCons da u) e (bindW wa fun x => bindW wu fun xs => pureW (x :: xs)) := fun env m Q E R hr q =>
  ha env m _ E _ (fun x q => hu env m _ E _ (fun xs q => hr (x :: xs) q) q) q
def szW (xs : List α) : W (List α) := fun Q _ => szOk xs.length ∧ Q xs
theorem te_tupL {wu : W (List α)} (hu : TL ps u e wu) : TE ps (dTup u) (eT e) (bindW wu szW) := fun env m Q E R hr q =>
  hu env m _ E _ (fun xs q => ⟨by rw [List.length_map]; exact q.1, hr xs q.2⟩) q
theorem te_lstL {wu : W (List α)} (hu : TL ps u e wu) : TE ps (dLst u) (eL e) (bindW wu szW) := fun env m Q E R hr q =>
  hu env m _ E _ (fun xs q => ⟨by rw [List.length_map]; exact q.1, hr xs q.2⟩) q
theorem te_tup2 (ha : TE ps da e wa) (hb : TE ps db f wb) : TE ps (dTup (dCons da (dCons db dNil))) (eP e f) (bindW wa fun x => bindW wb fun y => pureW (x, y)) := fun env m Q E R hr q =>
  ha env m _ E _ (fun x q => hb env m _ E _ (fun y q => ⟨szl2, hr (x, y) q⟩) q) q
def Op1 (o : List D → DK → Prop) (e : α → D) (g : γ → D) (op : α → W γ) : Prop := ∀ x (Q : DK) E (R : γ → Prop), (∀ r, R r → Q (g r)) → op x R E → o [e x] Q
def Op2B (o : List D → DK → Prop) (e : α → D) (f : β → D) (g : γ → D) (op : α → β → W γ) : Prop := ∀ x y (Q : DK) E (R : γ → Prop), (∀ r, R r → Q (g r)) → op x y R E → o [e x, f y] Q
theorem te_cb1 {o} {op : α → W γ} (ho : Op1 o e g op) (ha : TE ps da e wa) : TE ps (dCB o (dCons da dNil)) g (bindW wa op) := fun env m Q E R hr q =>
  ha env m _ E _ (fun x q => ho x Q E R hr q) q
theorem te_cb2 {o} {op : α → β → W γ} (ho : Op2B o e f g op) (ha : TE ps da e wa) (hb : TE ps db f wb) : TE ps (dCB o (dCons da (dCons db dNil))) g (bindW wa fun x => bindW wb fun y => op x y) := fun env m Q E R hr q =>
  ha env m _ E _ (fun x q => hb env m _ E _ (fun y q => ho x y Q E R hr q) q) q
def lenW (xs : List α) : W Int := pureW (xs.length : Int)
def lenA (d : D) : W Int := fun Q _ => match d with | .tp ys => Q ys.length | .ls ys => Q ys.length | .st z => szOk z.length ∧ Q z.length | _ => False
theorem o_lenT : Op1 oLen (eT e) eI lenW := fun x Q E R hr q => by
  show Q (.it ((x.map e).length : Nat)); rw [List.length_map]; exact hr _ q
theorem o_lenL : Op1 oLen (eL e) eI lenW := fun x Q E R hr q => by
  show Q (.it ((x.map e).length : Nat)); rw [List.length_map]; exact hr _ q
def lenS (z : Str) : W Int := fun Q _ => szOk z.length ∧ Q z.length
theorem o_lenS : Op1 oLen eS eI lenS := fun x Q E R hr q => ⟨q.1, hr _ q.2⟩
def sameW (x : α) : W α := pureW x
theorem o_tupleL : Op1 oTuple (eL e) (eT e) sameW := fun x Q E R hr q => hr _ q
def intB (b : Bool) : W Int := pureW (if b = true then 1 else 0)
theorem o_intB : Op1 oInt eB eI intB := fun x Q E R hr q => hr _ q
def absI (i : Int) : W Int := pureW (if i < 0 then -i else i)
def sumW (xs : List Int) : W Int := pureW xs.sum
def maxL (xs : List Int) : W Int := fun Q _ => xs ≠ [] ∧ ∀ m, m ∈ xs → (∀ y ∈ xs, y ≤ m) → Q m
def minL (xs : List Int) : W Int := fun Q _ => xs ≠ [] ∧ ∀ m, m ∈ xs → (∀ y ∈ xs, m ≤ y) → Q m
def max2 (x y : Int) : W Int := pureW (max x y)
def min2 (x y : Int) : W Int := pureW (min x y)
def anyW (xs : List Bool) : W Bool := pureW (xs.any id)
def allW (xs : List Bool) : W Bool := pureW (xs.all id)
theorem o_any : Op1 oAny (eL eB) eB anyW := fun x Q E R hr q => ⟨x, boolsD_map x, hr _ q⟩
theorem o_all : Op1 oAll (eL eB) eB allW := fun x Q E R hr q => ⟨x, boolsD_map x, hr _ q⟩
def reprW (d : D) : W Str := fun Q _ => Fit d ∧ Q d.py.shown
theorem o_repr : Op1 oRepr e eS (fun x => reprW (e x)) := fun x Q E R hr q => ⟨q.1, hr _ q.2⟩
theorem te_isi {T : String} (ha : TE ps da e wa) : TE ps (dIsi T da) eB (bindW wa fun x => pureW (isT T (e x))) := fun env m Q E R hr q =>
  ha env m _ E _ (fun x q => hr _ q) q
theorem te_isN (ha : TE ps da e wa) : TE ps (dIsN da) eB (bindW wa fun x => pureW (isNon (e x))) := fun env m Q E R hr q =>
  ha env m _ E _ (fun x q => hr _ q) q
theorem te_isNO {w : W (Option α)} (hn : ∀ x, isNon (e x) = false) (ha : TE ps da (eO e) w) : TE ps (dIsN da) eB (bindW w fun x => pureW x.isNone) := fun env m Q E R hr q =>
  ha env m _ E _ (fun x q => by
    have : isNon (eO e x) = x.isNone := by cases x with | none => rfl | some y => exact hn y
    show Q (.bl (isNon (eO e x))); rw [this]; exact hr _ q) q
theorem nn_P (x : α × β) : isNon (eP e f x) = false := rfl
theorem nn_I (x : Int) : isNon (eI x) = false := rfl
theorem te_and {wa wb : W Bool} (ha : TE ps da eB wa) (hb : TE ps db eB wb) : TE ps (dAndV da db) eB (bindW wa fun c => ifW c wb (pureW false)) := fun env m Q E R hr q =>
  ha env m _ E _ (fun c q => by
    cases c with
    | true => exact hb env m Q E R hr (by simpa [ifW] using q)
    | false => exact hr false (by simpa [ifW, pureW] using q)) q
theorem te_or {wa wb : W Bool} (ha : TE ps da eB wa) (hb : TE ps db eB wb) : TE ps (dOrV da db) eB (bindW wa fun c => ifW c (pureW true) wb) := fun env m Q E R hr q =>
  ha env m _ E _ (fun c q => by
    cases c with
    | false => exact hb env m Q E R hr (by simpa [ifW] using q)
    | true => exact hr true (by simpa [ifW, pureW] using q)) q
theorem te_not {wa : W Bool} (ha : TE ps da eB wa) : TE ps (dNotV da) eB (bindW wa fun c => pureW (!c)) := fun env m Q E R hr q =>
  ha env m _ E _ (fun c q => hr _ q) q
theorem te_if {wa' : W α} (ht : TB ps ta wt) (ha : TE ps da e wa) (hb : TE ps db e wa') : TE ps (dIf ta da db) e (bindW wt fun c => ifW c wa wa') := fun env m Q E R hr q =>
  ht env m _ E _ (fun c q => by
    cases c with
    | true => exact ha env m Q E R hr (by simpa [ifW] using q)
    | false => exact hb env m Q E R hr (by simpa [ifW] using q)) q
theorem te_neg {wa : W Int} (ha : TE ps da eI wa) : TE ps (dNeg da) eI (bindW wa fun i => pureW (-i)) := fun env m Q E R hr q =>
  ha env m _ E _ (fun c q => hr _ q) q
theorem te_chain {o o' : D → D → DK → Prop} {op : α → β → W Bool} {op' : β → γ → W Bool} (h : Op2 o e f eB op) (h' : Op2 o' f g eB op') (ha : TE ps da e wa) (hb : TE ps db f wb) (hc : TE ps dc g wc) :
    TE ps (dChain o o' da db dc) eB (bindW wa fun x => bindW wb fun y => bindW (op x y) fun c => ifW c (bindW wc fun z => op' y z) (pureW false)) := fun env m Q E R hr q =>
  ha env m _ E _ (fun x q => hb env m _ E _ (fun y q => h x y _ E _ (fun c q => by
    cases c with
    | true => exact hc env m _ E _ (fun z q => h' y z Q E R hr q) q
    | false => exact hr false (by simpa [ifW, pureW] using q)) q) q) q
theorem tb_tst {wa : W Bool} (ha : TE ps da eB wa) : TB ps (dTst da) wa := fun env m Q E R hr q => ha env m _ E _ (fun c q => hr c q) q
theorem tb_and (ha : TB ps ta wt) (hb : TB ps tb wu) : TB ps (dAnd ta tb) (bindW wt fun c => ifW c wu (pureW false)) := fun env m Q E R hr q =>
  ha env m _ E _ (fun c q => by
    cases c with
    | true => exact hb env m Q E R hr (by simpa [ifW] using q)
    | false => exact hr false (by simpa [ifW, pureW] using q)) q
theorem tb_or (ha : TB ps ta wt) (hb : TB ps tb wu) : TB ps (dOr ta tb) (bindW wt fun c => ifW c (pureW true) wu) := fun env m Q E R hr q =>
  ha env m _ E _ (fun c q => by
    cases c with
    | false => exact hb env m Q E R hr (by simpa [ifW] using q)
    | true => exact hr true (by simpa [ifW, pureW] using q)) q
theorem tb_not (ha : TB ps ta wt) : TB ps (dNot ta) (bindW wt fun c => pureW (!c)) := fun env m Q E R hr q => ha env m _ E _ (fun c q => hr _ q) q
theorem tb_yes : TB ps dYes (pureW true) := fun env m Q E R hr q => hr _ q
def cutT (xs : List α) (lo hi : Option Int) : List α := (xs.drop (HT.sIx xs.length 0 lo)).take (HT.sIx xs.length xs.length hi - HT.sIx xs.length 0 lo)
theorem cutT_map (xs : List α) (lo hi : Option Int) : cutD (xs.map e) lo hi = (cutT xs lo hi).map e := by
  unfold cutD cutT
  rw [List.length_map, List.map_take, List.map_drop]
theorem tp_none : TP ps dNoPart (pureW none) := fun env m Q E R hr q => hr _ q
theorem tp_some {w : W Int} (ha : TE ps da eI w) : TP ps (dPart da) (bindW w fun i => pureW (some i)) := fun env m Q E R hr q => ha env m _ E _ (fun i q => hr _ q) q
variable {dl dh : DO_} {wl wh : W (Option Int)}
theorem te_slT {w : W (List α)} (ha : TE ps da (eT e) w) (hl : TP ps dl wl) (hh : TP ps dh wh) : TE ps (dSl da dl dh) (eT e) (bindW w fun xs => bindW wl fun l => bindW wh fun h => pureW (cutT xs l h)) := fun env m Q E R hr q =>
  ha env m _ E _ (fun xs q => hl env m _ E _ (fun l q => hh env m _ E _ (fun h q => by
    have := hr _ q
    show Q (.tp (cutD (xs.map e) l h)); rw [cutT_map]; exact this) q) q) q
theorem te_slL {w : W (List α)} (ha : TE ps da (eL e) w) (hl : TP ps dl wl) (hh : TP ps dh wh) : TE ps (dSl da dl dh) (eL e) (bindW w fun xs => bindW wl fun l => bindW wh fun h => pureW (cutT xs l h)) := fun env m Q E R hr q =>
  ha env m _ E _ (fun xs q => hl env m _ E _ (fun l q => hh env m _ E _ (fun h q => by
    have := hr _ q
    show Q (.ls (cutD (xs.map e) l h)); rw [cutT_map]; exact this) q) q) q
theorem te_revL {w : W (List α)} (ha : TE ps da (eL e) w) : TE ps (dRev da) (eL e) (bindW w fun xs => pureW xs.reverse) := fun env m Q E R hr q =>
  ha env m _ E _ (fun xs q => by have := hr _ q; unfold eL at this; rw [List.map_reverse] at this; exact this) q
def ixA (x : D) (k : Int) : W D := fun Q _ => oIx x (.it k) Q
end
structure EqE {α : Type} (e : α → D) : Prop where
  plain : ∀ x, plainD (e x) = true
  deep : ∃ n, n ≤ 20 ∧ ∀ x, deep (e x) ≤ n
  inj : ∀ x y, eqD (e x) (e y) = true ↔ x = y
structure EqN {α : Type} (n : Nat) (e : α → D) : Prop where
  plain : ∀ x, plainD (e x) = true
  deep : ∀ x, deep (e x) ≤ n
  inj : ∀ x y, eqD (e x) (e y) = true ↔ x = y
section
variable {α β γ δ : Type} {e : α → D} {f : β → D} {g : γ → D} {h : δ → D} {n m k l : Nat}
theorem eq_I : EqN 0 eI := ⟨fun _ => rfl, fun _ => by simp [deep], fun x y => by show (x == y) = true ↔ _; exact beq_iff_eq⟩
theorem eq_S : EqN 0 eS := ⟨fun _ => rfl, fun _ => by simp [deep], fun x y => by show (x == y) = true ↔ _; exact beq_iff_eq⟩
theorem plain_map (h : ∀ x, plainD (e x) = true) : ∀ xs : List α, plainDL (xs.map e) = true
  | [] => rfl
  | x :: r => by simp only [List.map_cons, plainDL, h x, plain_map h r, Bool.and_self]
theorem deep_map (h : ∀ x, deep (e x) ≤ n) : ∀ xs : List α, deepL (xs.map e) ≤ n
  | [] => by simp [deepL]
  | x :: r => by simp only [List.map_cons, deepL]; have := h x; have := deep_map h r; omega
theorem eqv_map (h : ∀ x y, eqD (e x) (e y) = true ↔ x = y) : ∀ xs ys : List α, PyData.eqvAll (pyL (xs.map e)) (pyL (ys.map e)) = true ↔ xs = ys
  | [], [] => by simp [pyL, PyData.eqvAll]
  | [], _ :: _ => by simp [pyL, PyData.eqvAll]
  | _ :: _, [] => by simp [pyL, PyData.eqvAll]
  | x :: xs, y :: ys => by
    have ih := eqv_map h xs ys
    have hx := h x y
    unfold eqD at hx
    simp only [List.map_cons, pyL, PyData.eqvAll, Bool.and_eq_true, hx, ih, List.cons.injEq]
theorem eq_L (h : EqN n e) : EqN (n + 1) (eL e) := ⟨fun xs => by simp only [eL, plainD]; exact plain_map h.plain xs, fun xs => by simp only [eL, deep]; have := deep_map h.deep xs; omega, fun xs ys => by
  show PyData.eqv (.list (pyL (xs.map e))) (.list (pyL (ys.map e))) = true ↔ _
  rw [PyData.eqv]; exact eqv_map h.inj xs ys⟩
theorem eq_P (h1 : EqN n e) (h2 : EqN m f) : EqN (max n m + 1) (eP e f) := ⟨fun p => by simp only [eP, plainD, plainDL, h1.plain, h2.plain, Bool.and_self], fun p => by simp only [eP, deep, deepL]; have := h1.deep p.1; have := h2.deep p.2; omega, fun p q => by
  show PyData.eqv (.tuple (pyL [e p.1, f p.2])) (.tuple (pyL [e q.1, f q.2])) = true ↔ _
  have a := h1.inj p.1 q.1; have b := h2.inj p.2 q.2
  unfold eqD at a b
  simp only [pyL, PyData.eqv, PyData.eqvAll, Bool.and_eq_true, a, b, Bool.and_true, Prod.ext_iff]⟩
theorem eqv_non_l {d : D} (h : isNon d = false) (hb : isBx d = false) : PyData.eqv .none d.py = false := by cases d <;> simp_all [isNon, isBx, D.py, PyData.eqv]
theorem eqv_non_r {d : D} (h : isNon d = false) (hb : isBx d = false) : PyData.eqv d.py .none = false := by cases d <;> simp_all [isNon, isBx, D.py, PyData.eqv]
theorem bx_plain {d : D} (h : plainD d = true) : isBx d = false := by cases d <;> simp_all [plainD, isBx]
theorem eq_O (hn : ∀ x, isNon (e x) = false) (h : EqN n e) : EqN n (eO e) := ⟨fun p => by cases p with | none => rfl | some x => exact h.plain x, fun p => by cases p with | none => simp [eO, deep] | some x => exact h.deep x, fun p q => by
  cases p with
  | none => cases q with
    | none => simp [eO, eqD, D.py, PyData.eqv]
    | some y => simp [eO, eqD, D.py, eqv_non_l (hn y) (bx_plain (h.plain y))]
  | some x => cases q with
    | none => simp [eO, eqD, D.py, eqv_non_r (hn x) (bx_plain (h.plain x))]
    | some y => simp [eO, h.inj]⟩
def eqW [DecidableEq α] (x y : α) : W Bool := pureW (decide (x = y))
def neW [DecidableEq α] (x y : α) : W Bool := pureW (!decide (x = y))
theorem EqN.dec [DecidableEq α] (h : EqN n e) (x y : α) : eqD (e x) (e y) = decide (x = y) := by
  have := h.inj x y
  cases q : eqD (e x) (e y) with
  | true => rw [q] at this; exact (decide_eq_true (this.mp rfl)).symm
  | false => rw [q] at this; exact (decide_eq_false fun z => by have := this.mpr z; cases this).symm
theorem EqN.cmp (h : EqN n e) (hn : n ≤ 20) (x y : α) : cmpOk (e x) (e y) := ⟨h.plain x, h.plain y, by have := h.deep x; omega⟩
theorem o_eq [DecidableEq α] (h : EqN n e) (hn : n ≤ 20) (hi : ∀ x j, e x ≠ .it j) : Op2 oEq e e eB eqW := fun x y Q E R hr q => by
  have k := hr _ q
  unfold oEq
  split
  · next j ej => exact (hi _ _ ej).elim
  · exact ⟨h.cmp hn x y, by rw [h.dec]; exact k⟩
theorem o_ne [DecidableEq α] (h : EqN n e) (hn : n ≤ 20) (hi : ∀ x j, e x ≠ .it j) : Op2 oNe e e eB neW := fun x y Q E R hr q => by
  have k := hr _ q
  unfold oNe
  split
  · next j ej => exact (hi _ _ ej).elim
  · exact ⟨h.cmp hn x y, by rw [h.dec]; exact k⟩
def eqA (x y : D) : W Bool := fun Q _ => match y with | .it j => isBx x = false ∧ Q (eqIt x j) | y => cmpOk x y ∧ Q (eqD x y)
def neA (x y : D) : W Bool := fun Q _ => match y with | .it j => isBxDc x = false ∧ Q (!eqIt x j) | y => cmpOk x y ∧ Q (!eqD x y)
theorem o_eqA : Op2 oEq eA eA eB eqA := fun x y Q E R hr q => by
  cases y <;> exact ⟨q.1, hr _ q.2⟩
def inW [DecidableEq α] (x : α) (xs : List α) : W Bool := pureW (decide (x ∈ xs))
def niW [DecidableEq α] (x : α) (xs : List α) : W Bool := pureW (!decide (x ∈ xs))
theorem any_map [DecidableEq α] (h : EqN n e) (x : α) : ∀ xs : List α, ((xs.map e).any fun z => eqD z (e x)) = decide (x ∈ xs)
  | [] => by simp
  | y :: r => by
    rw [List.map_cons, List.any_cons, any_map h x r, h.dec]
    by_cases h1 : y = x
    · subst h1; simp
    · have : ¬ x = y := fun z => h1 z.symm
      simp [h1, this]
theorem o_inT [DecidableEq α] (h : EqN n e) (hn : n ≤ 20) : Op2 oIn e (eT e) eB inW := fun x xs Q E R hr q =>
  ⟨h.plain x, plain_map h.plain xs, by have := h.deep x; omega, by rw [any_map h]; exact hr _ q⟩
theorem o_inL [DecidableEq α] (h : EqN n e) (hn : n ≤ 20) : Op2 oIn e (eL e) eB inW := fun x xs Q E R hr q =>
  ⟨h.plain x, plain_map h.plain xs, by have := h.deep x; omega, by rw [any_map h]; exact hr _ q⟩
def inA (x : D) (ys : List D) : W Bool := fun Q _ => (plainD x = true ∧ plainDL ys = true ∧ deep x ≤ 150) ∧ Q (ys.any fun z => eqD z x)
end
section
variable {α β γ : Type} {ps : SPat} {da db : DT_} {e : α → D} {f : β → D} {g : γ → D} {u : DA_}
theorem ti_T {w : W (List α)} (ha : TE ps da (eT e) w) : TI ps (dSeqI da) e w := fun env m Q E R hr q => ha env m _ E _ (fun xs q => hr xs q) q
theorem ti_L {w : W (List α)} (ha : TE ps da (eL e) w) : TI ps (dSeqI da) e w := fun env m Q E R hr q => ha env m _ E _ (fun xs q => hr xs q) q
def rgI (lo : Int) (n : Nat) : List Int := (List.range n).map fun (j : Nat) => lo + (j : Int)
theorem rgD_map (lo : Int) (n : Nat) : rgD lo n = (rgI lo n).map eI := by unfold rgD rgI; rw [List.map_map]; rfl
def rng1W (j : Int) : W (List Int) := fun Q _ => in62 j ∧ Q (rgI 0 j.toNat)
def rng2W (i j : Int) : W (List Int) := fun Q _ => (in62 i ∧ in62 j) ∧ Q (rgI i (j - i).toNat)
theorem ti_rng1 {w : W Int} (ha : TE ps da eI w) : TI ps (dRng1 (dCons da dNil)) eI (bindW w rng1W) := fun env m Q E R hr q =>
  ha env m _ E _ (fun j q => ⟨q.1, by have := hr _ q.2; rw [← rgD_map] at this; exact this⟩) q
def enI (xs : List α) : List (Int × α) := xs.zipIdx.map fun p => ((p.2 : Int), p.1)
theorem enD_map (xs : List α) : enD (xs.map e) = (enI xs).map (eP eI e) := by
  unfold enD enI
  rw [List.map_map]
  apply List.ext_getElem?
  intro i
  rw [List.getElem?_map, List.getElem?_map, List.getElem?_zipIdx, List.length_map]
  by_cases h : i < xs.length
  · rw [List.getElem?_range h, List.getElem?_eq_getElem h]
    simp [eP, h]
  · rw [List.getElem?_eq_none_iff.mpr (by simpa using h), List.getElem?_eq_none_iff.mpr (by simpa using h)]; rfl
theorem ti_enL {w : W (List α)} (ha : TE ps da (eL e) w) : TI ps (dEnum (dCons da dNil)) (eP eI e) (bindW w fun xs => pureW (enI xs)) := fun env m Q E R hr q =>
  ha env m _ E _ (fun xs q => by have := hr _ q; rw [← enD_map] at this; exact this) q
theorem tg_name (i : Nat) {d : D} : TG ps (dgName i) d (ps.set i (some (.v d))) := fun env Q m k => k _ (m.set i (.v d))
theorem tgs_nil : TGs ps dgNil [] ps := fun env Q m k => k _ m
theorem tgs_cons {dg : DG_} {us : List D → Env' → (Env' → Prop) → Prop} {x : D} {xs : List D} {ps1 ps2 : SPat} (h1 : TG ps dg x ps1) (h2 : TGs ps1 us xs ps2) : TGs ps (dgCons dg us) (x :: xs) ps2 := fun env Q m k =>
  h1 env _ m fun env1 m1 => h2 env1 Q m1 k
theorem tg_tup {n : Nat} {us : List D → Env' → (Env' → Prop) → Prop} {xs : List D} {ps1 : SPat} (hn : xs.length = n) (h : TGs ps us xs ps1) : TG ps (dgTup n us) (.tp xs) ps1 := fun env Q m k => ⟨hn, h env Q m k⟩
theorem tg_lst {n : Nat} {us : List D → Env' → (Env' → Prop) → Prop} {xs : List D} {ps1 : SPat} (hn : xs.length = n) (h : TGs ps us xs ps1) : TG ps (dgLst n us) (.ls xs) ps1 := fun env Q m k => ⟨hn, h env Q m k⟩
def lcP (t : α → W Bool) (h : α → W β) (E : EK) : List α → List β → (List β → Prop) → Prop
  | [], acc, Q => Q acc
  | x :: xs, acc, Q => t x (fun b => if b = true then h x (fun y => lcP t h E xs (acc ++ [y]) Q) E else lcP t h E xs acc Q) E
def lcW (t : α → W Bool) (h : α → W β) (xs : List α) : W (List β) := fun Q _ => xs.length ≤ sizeLine ∧ lcP t h (fun _ => False) xs [] Q
theorem lcD_P {dg : DG_} {tt : DB_} {te : DT_} {env : Env'} {Q : List D → Prop} {R : List β → Prop} {t : α → W Bool} {h : α → W β} {ps : SPat} {ps1 : α → SPat} (hg : ∀ x, TG ps dg (e x) (ps1 x)) (ht : ∀ x, TB (ps1 x) tt (t x)) (hh : ∀ x, TE (ps1 x) te f (h x)) (m : Me ps env)
    (hr : ∀ ys, R ys → Q (ys.map f)) : ∀ (xs : List α) (acc : List β), acc.length + xs.length ≤ sizeLine → lcP t h (fun _ => False) xs acc R → lcD dg tt te env (fun _ => False) Q (xs.map e) (acc.map f)
  | [], acc, _, q => hr acc q
  | x :: xs, acc, hl, q => by
    have hl' : acc.length + (xs.length + 1) ≤ sizeLine := by simpa using hl
    rw [List.map_cons]
    show dg (e x) env fun env1 => tt env1 (fun b => match b with | true => te env1 (fun y => (acc.map f).length < sizeLine ∧ lcD dg tt te env (fun _ => False) Q (xs.map e) (acc.map f ++ [y])) (fun _ => False) | false => lcD dg tt te env (fun _ => False) Q (xs.map e) (acc.map f)) (fun _ => False)
    refine hg x env _ m fun env1 m1 => ht x env1 m1 _ _ _ (fun b qb => ?_) q
    cases b with
    | true =>
      refine hh x env1 m1 _ _ (fun y => lcP t h (fun _ => False) xs (acc ++ [y]) R) (fun y qy => ⟨by rw [List.length_map]; omega, ?_⟩) (by simpa using qb)
      have := lcD_P hg ht hh m hr xs (acc ++ [y]) (by simp; omega) qy
      rw [List.map_append] at this
      exact this
    | false => exact lcD_P hg ht hh m hr xs acc (by omega) (by simpa using qb)
theorem tn_lc {di : DI_} {dg : DG_} {tt : DB_} {te : DT_} {vs : List Nat} {w : W (List α)} {t : α → W Bool} {h : α → W β} {ps1 : α → SPat} (hi : TI ps di e w) (hg : ∀ x, TG (wipeP ps vs) dg (e x) (ps1 x)) (ht : ∀ x, TB (ps1 x) tt (t x)) (hh : ∀ x, TE (ps1 x) te f (h x)) :
    TN ps (dLc di dg tt te vs) f (bindW w fun xs => lcW t h xs) := fun env m Q E R hr q =>
  hi env m _ E _ (fun xs q => lcD_P hg ht hh (m.wipe vs) hr xs [] (by simpa using q.1) q.2) q
theorem ni_L (x : List α) (j : Int) : eL e x ≠ .it j := fun h => by unfold eL at h; cases h
theorem ni_S (x : Str) (j : Int) : eS x ≠ .it j := fun h => by cases h
theorem lf_I (x : Int) : lfD (eI x) = true := rfl
theorem te_frz {dn : DN_} {w : W (List α)} (h : TN ps dn e w) : TE ps (dFrz dn) (eL e) w := fun env m Q E R hr q => h env m _ E R (fun xs q => hr xs q) q
theorem tn_lst {w : W (List α)} (h : TL ps u e w) : TN ps (dLstN u) e (bindW w szW) := fun env m Q E R hr q => h env m _ E _ (fun xs q => ⟨by rw [List.length_map]; exact q.1, hr xs q.2⟩) q
theorem tn_cat {w w' : W (List α)} (ha : TE ps da (eL e) w) (hb : TE ps db (eL e) w') : TN ps (dCatN da db) e (bindW w fun x => bindW w' fun y => catW x y) := fun env m Q E R hr q =>
  ha env m _ E _ (fun x q => hb env m _ E _ (fun y q => ⟨by simpa using q.1, by have := hr _ q.2; rw [List.map_append] at this; exact this⟩) q) q
def NoE (w : W α) : Prop := ∀ Q E E', w Q E → w Q E'
theorem te_lend (i : Nat) {xs : List β} {w : W α} (h : ps[i]? = some (some (.own (xs.map f)))) (hl : ∀ x, lfD (e x) = true) (hw : NoE w) (ha : TE (ps.set i (some (.v (eL f xs)))) da e w) : TE ps (dLend i da) e w := fun env m Q E R hr q => by
  unfold dLend
  rw [m.at_ i _ h]
  exact ha _ (m.set i _) _ _ R (fun r q => ⟨hl r, hr r q⟩) (hw _ _ _ q)
theorem te_call1 {ρ : Type} {er : ρ → D} {sp : SpD} {α0 : Type} {e0 : α0 → D} {d0 : DT_} {w0 : W α0} {t : α0 → W ρ} (h : ∀ x0 (Q : DK) E (R : ρ → Prop), (∀ r, R r → Q (er r)) → t x0 R E → sp [e0 x0] Q E)
    (a0 : TE ps d0 e0 w0) : TE ps (dCall sp (dCons d0 dNil)) er (bindW w0 fun x0 => t x0) := fun env m Q E R hr q => a0 env m _ E _ (fun x0 q => h x0 Q E R hr q) q
theorem te_call2 {ρ : Type} {er : ρ → D} {sp : SpD} {α0 : Type} {e0 : α0 → D} {d0 : DT_} {w0 : W α0} {α1 : Type} {e1 : α1 → D} {d1 : DT_} {w1 : W α1} {t : α0 → α1 → W ρ} (h : ∀ x0 x1 (Q : DK) E (R : ρ → Prop), (∀ r, R r → Q (er r)) → t x0 x1 R E → sp [e0 x0, e1 x1] Q E)
    (a0 : TE ps d0 e0 w0) (a1 : TE ps d1 e1 w1) : TE ps (dCall sp (dCons d0 (dCons d1 dNil))) er (bindW w0 fun x0 => bindW w1 fun x1 => t x0 x1) := fun env m Q E R hr q => a0 env m _ E _ (fun x0 q => a1 env m _ E _ (fun x1 q => h x0 x1 Q E R hr q) q) q
theorem te_call3 {ρ : Type} {er : ρ → D} {sp : SpD} {α0 : Type} {e0 : α0 → D} {d0 : DT_} {w0 : W α0} {α1 : Type} {e1 : α1 → D} {d1 : DT_} {w1 : W α1} {α2 : Type} {e2 : α2 → D} {d2 : DT_} {w2 : W α2} {t : α0 → α1 → α2 → W ρ} (h : ∀ x0 x1 x2 (Q : DK) E (R : ρ → Prop), (∀ r, R r → Q (er r)) → t x0 x1 x2 R E → sp [e0 x0, e1 x1, e2 x2] Q E)
    (a0 : TE ps d0 e0 w0) (a1 : TE ps d1 e1 w1) (a2 : TE ps d2 e2 w2) : TE ps (dCall sp (dCons d0 (dCons d1 (dCons d2 dNil)))) er (bindW w0 fun x0 => bindW w1 fun x1 => bindW w2 fun x2 => t x0 x1 x2) := fun env m Q E R hr q => a0 env m _ E _ (fun x0 q => a1 env m _ E _ (fun x1 q => a2 env m _ E _ (fun x2 q => h x0 x1 x2 Q E R hr q) q) q) q
theorem te_call4 {ρ : Type} {er : ρ → D} {sp : SpD} {α0 : Type} {e0 : α0 → D} {d0 : DT_} {w0 : W α0} {α1 : Type} {e1 : α1 → D} {d1 : DT_} {w1 : W α1} {α2 : Type} {e2 : α2 → D} {d2 : DT_} {w2 : W α2} {α3 : Type} {e3 : α3 → D} {d3 : DT_} {w3 : W α3} {t : α0 → α1 → α2 → α3 → W ρ} (h : ∀ x0 x1 x2 x3 (Q : DK) E (R : ρ → Prop), (∀ r, R r → Q (er r)) → t x0 x1 x2 x3 R E → sp [e0 x0, e1 x1, e2 x2, e3 x3] Q E)
    (a0 : TE ps d0 e0 w0) (a1 : TE ps d1 e1 w1) (a2 : TE ps d2 e2 w2) (a3 : TE ps d3 e3 w3) : TE ps (dCall sp (dCons d0 (dCons d1 (dCons d2 (dCons d3 dNil))))) er (bindW w0 fun x0 => bindW w1 fun x1 => bindW w2 fun x2 => bindW w3 fun x3 => t x0 x1 x2 x3) := fun env m Q E R hr q => a0 env m _ E _ (fun x0 q => a1 env m _ E _ (fun x1 q => a2 env m _ E _ (fun x2 q => a3 env m _ E _ (fun x3 q => h x0 x1 x2 x3 Q E R hr q) q) q) q) q
theorem te_call5 {ρ : Type} {er : ρ → D} {sp : SpD} {α0 : Type} {e0 : α0 → D} {d0 : DT_} {w0 : W α0} {α1 : Type} {e1 : α1 → D} {d1 : DT_} {w1 : W α1} {α2 : Type} {e2 : α2 → D} {d2 : DT_} {w2 : W α2} {α3 : Type} {e3 : α3 → D} {d3 : DT_} {w3 : W α3} {α4 : Type} {e4 : α4 → D} {d4 : DT_} {w4 : W α4} {t : α0 → α1 → α2 → α3 → α4 → W ρ} (h : ∀ x0 x1 x2 x3 x4 (Q : DK) E (R : ρ → Prop), (∀ r, R r → Q (er r)) → t x0 x1 x2 x3 x4 R E → sp [e0 x0, e1 x1, e2 x2, e3 x3, e4 x4] Q E)
    (a0 : TE ps d0 e0 w0) (a1 : TE ps d1 e1 w1) (a2 : TE ps d2 e2 w2) (a3 : TE ps d3 e3 w3) (a4 : TE ps d4 e4 w4) : TE ps (dCall sp (dCons d0 (dCons d1 (dCons d2 (dCons d3 (dCons d4 dNil)))))) er (bindW w0 fun x0 => bindW w1 fun x1 => bindW w2 fun x2 => bindW w3 fun x3 => bindW w4 fun x4 => t x0 x1 x2 x3 x4) := fun env m Q E R hr q => a0 env m _ E _ (fun x0 q => a1 env m _ E _ (fun x1 q => a2 env m _ E _ (fun x2 q => a3 env m _ E _ (fun x3 q => a4 env m _ E _ (fun x4 q => h x0 x1 x2 x3 x4 Q E R hr q) q) q) q) q) q
end
def TS (ps : SPat) (d : DS_) (De : DEnds) (P : Prop) : Prop := ∀ env, Me ps env → P → d De env
def NX {σ : Type} (nx : Env' → Prop) (psJ : σ → SPat) (K : σ → Prop) : Prop := ∀ s env, Me (psJ s) env → K s → nx env
section
variable {α β γ σ τ : Type} {ps : SPat} {de di : DT_} {d u d1 d2 : DS_} {De : DEnds} {e : α → D} {f : β → D} {w : W α} {w' : W β} {P : Prop} {psJ psL : σ → SPat} {K : σ → Prop}
def bindP (w : W α) (k : α → Prop) (E : EK) : Prop := w k E
def ifP (b : Bool) (P Q : Prop) : Prop := if b = true then P else Q
def joinP (f : (σ → Prop) → Prop) (k : σ → Prop) : Prop := f k
theorem ts_fall (h : NX De.nx psJ K) (s : σ) (hs : PSub (psJ s) ps) : TS ps dNext De (K s) := fun env m p => h s env (m.sub hs) p
theorem ts_last (h : TS ps (dSeq d dNext) De P) : TS ps d De P := fun env m p => h env m p
theorem ts_seq0 (h : TS ps d { De with nx := u De } P) : TS ps (dSeq d u) De P := fun env m p => h env m p
theorem ts_ret {R : α → Prop} (hr : ∀ r, R r → De.rt (e r)) (h : TE ps de e w) : TS ps (dRet de) De (w R De.ex) := fun env m p => h env m _ _ _ hr p
theorem ts_via (h : TS ps u De P) : TS ps dNext { De with nx := u De } P := fun env m p => h env m p
theorem ts_set (i : Nat) {k : α → Prop} (h : TE ps de e w) (hk : ∀ x, TS (ps.set i (some (.v (e x)))) u De (k x)) : TS ps (dSeq (dSet i de) u) De (bindP w k De.ex) := fun env m p =>
  h env m _ _ _ (fun x q => hk x _ (m.set i _) q) p
theorem ts_setN (i : Nat) {k : List α → Prop} {dn : DN_} {w : W (List α)} (h : TN ps dn e w) (hk : ∀ x, TS (ps.set i (some (.v (eL e x)))) u De (k x)) : TS ps (dSeq (dSetN i dn) u) De (bindP w k De.ex) := fun env m p =>
  h env m _ _ _ (fun x q => hk x _ (m.set i (.v (.ls (x.map e)))) q) p
theorem ts_setO (i : Nat) {k : List α → Prop} {dn : DN_} {w : W (List α)} (h : TN ps dn e w) (hk : ∀ x, TS (ps.set i (some (.own (x.map e)))) u De (k x)) : TS ps (dSeq (dSetO i dn) u) De (bindP w k De.ex) := fun env m p =>
  h env m _ _ _ (fun x q => hk x _ (m.set i _) q) p
theorem ts_asg {k : α → Prop} {dg : DG_} {ps1 : α → SPat} (h : TE ps de e w) (hg : ∀ x, TG ps dg (e x) (ps1 x)) (hk : ∀ x, TS (ps1 x) u De (k x)) : TS ps (dSeq (dAsg de dg) u) De (bindP w k De.ex) := fun env m p =>
  h env m _ _ _ (fun x q => hg x _ _ m fun env1 m1 => hk x env1 m1 q) p
theorem ts_par (i j : Nat) {d1 d2 : DT_} {k : α → β → Prop} (h : TE ps d1 e w) (h' : TE ps d2 f w') (hk : ∀ x y, TS ((ps.set i (some (.v (e x)))).set j (some (.v (f y)))) u De (k x y)) :
    TS ps (dSeq (dPar i j (dCons d1 (dCons d2 dNil))) u) De (bindP w (fun x => bindP w' (fun y => k x y) De.ex) De.ex) := fun env m p =>
  h env m _ _ _ (fun x q => h' env m _ _ _ (fun y q => hk x y _ ((m.set i _).set j _) q) q) p
def appP (xs : List α) (P : Prop) : Prop := xs.length < sizeLine ∧ P
theorem ts_app (i : Nat) {xs : List α} {k : α → Prop} (hp : ps[i]? = some (some (.own (xs.map e)))) (h : TE ps de e w) (hk : ∀ x, TS (ps.set i (some (.own ((xs ++ [x]).map e)))) u De (k x)) : TS ps (dSeq (dApp i de) u) De (bindP w (fun x => appP xs (k x)) De.ex) := fun env m p => by
  show dApp i de _ env
  unfold dApp
  rw [m.at_ i _ hp]
  exact h env m _ _ _ (fun x q => ⟨by rw [List.length_map]; exact q.1, by
    have := hk x _ (m.set i _) q.2
    rw [List.map_append] at this; exact this⟩) p
def setixP (xs : List α) (k : Int) (y : α) (P : List α → Prop) : Prop := ∃ j, ixN xs.length k = some j ∧ P (xs.set j y)
def augixP (xs : List Int) (k : Int) (P : Nat → Int → Prop) : Prop := ∃ j n, ixN xs.length k = some j ∧ xs[j]? = some n ∧ P j n
theorem ts_frz (i : Nat) {xs : List α} (hp : ps[i]? = some (some (.own (xs.map e)))) (h : TS (ps.set i (some (.v (eL e xs)))) (dSeq d u) De P) : TS ps (dSeq (dFrzS i d) u) De P := fun env m p => by
  show dFrzS i d _ env
  unfold dFrzS
  rw [m.at_ i _ hp]
  exact h _ (m.set i _) p
theorem ts_frz1 (i : Nat) {xs : List α} (hp : ps[i]? = some (some (.own (xs.map e)))) (h : TS (ps.set i (some (.v (eL e xs)))) d De P) : TS ps (dFrzS i d) De P := fun env m p => by
  unfold dFrzS
  rw [m.at_ i _ hp]
  exact h _ (m.set i _) p
theorem ts_if {t : DB_} {wt : W Bool} {P Q : Prop} (ht : TB ps t wt) (h1 : TS ps d1 De P) (h2 : TS ps d2 De Q) : TS ps (dIfS t d1 d2) De (bindP wt (fun b => ifP b P Q) De.ex) := fun env m p =>
  ht env m _ _ _ (fun b q => by
    cases b with
    | true => exact h1 env m (by simpa [ifP] using q)
    | false => exact h2 env m (by simpa [ifP] using q)) p
theorem ts_join (F : (σ → Prop) → Prop) {k : σ → Prop} (psJ : σ → SPat) (hr : ∀ s, TS (psJ s) u De (k s)) (h : ∀ K : σ → Prop, NX (u De) psJ K → TS ps d { De with nx := u De } (F K)) : TS ps (dSeq d u) De (joinP F k) := fun env m p =>
  h k (fun s env m q => hr s env m q) env m p
def forP (body : α → σ → (σ → Prop) → (σ → Prop) → Prop) (K : σ → Prop) : List α → σ → Prop
  | [], s => K s
  | x :: xs, s => body x s (forP body K xs) K
theorem forD_P {dg : DG_} {db : DS_} {body : α → σ → (σ → Prop) → (σ → Prop) → Prop} {ps1 : α → σ → SPat} (hg : ∀ x s, TG (psL s) dg (e x) (ps1 x s))
    (hb : ∀ x s (N : σ → Prop) (nx : Env' → Prop), NX nx psL N → TS (ps1 x s) db { De with nx := nx, ct := nx, bk := De.nx } (body x s N K)) (hk : NX De.nx psL K) : ∀ (xs : List α) (s : σ) (env : Env'), Me (psL s) env → forP body K xs s → forD dg db De (xs.map e) env
  | [], s, env, m, p => hk s env m p
  | x :: xs, s, env, m, p => by
    rw [List.map_cons]
    show dg (e x) env fun env1 => db { De with nx := forD dg db De (xs.map e), ct := forD dg db De (xs.map e), bk := De.nx } env1
    exact hg x s env _ m fun env1 m1 => hb x s _ _ (fun s' env' m' q => forD_P hg hb hk xs s' env' m' q) env1 m1 p
theorem ts_for {dI : DI_} {dg : DG_} {db : DS_} {wi : W (List α)} {body : α → σ → (σ → Prop) → (σ → Prop) → Prop} {ps1 : α → σ → SPat} (psL : σ → SPat) (s0 : σ) (hi : TI ps dI e wi) (hs : PSub (psL s0) ps) (hg : ∀ x s, TG (psL s) dg (e x) (ps1 x s))
    (hb : ∀ x s (N : σ → Prop) (nx : Env' → Prop), NX nx psL N → TS (ps1 x s) db { De with nx := nx, ct := nx, bk := u De } (body x s N K)) (hr : ∀ s, TS (psL s) u De (K s)) :
    TS ps (dSeq (dFor dI dg db) u) De (bindP wi (fun xs => forP body K xs s0) De.ex) := fun env m p =>
  hi env m _ _ _ (fun xs q => forD_P (De := { De with nx := u De }) hg hb (fun s env m q => hr s env m q) xs s0 env (m.sub hs) q) p
end
section
variable {α β γ : Type} {ps : SPat} {da db dc : DT_} {e : α → D} {f : β → D} {g : γ → D} {u : DA_}
def idxW (xs : List Int) (v : Int) : W Int := fun Q _ => ∃ j : Nat, (xs[j]? = some v ∧ ∀ m, m < j → xs[m]? ≠ some v) ∧ Q (j : Int)
def strI (i : Int) : Str := toString i
def strW (i : Int) : W Str := fun Q _ => i.natAbs.log2 < 1920 ∧ Q (strI i)
theorem o_str : Op1 oStr eI eS strW := fun x Q E R hr q => ⟨q.1, hr _ q.2⟩
theorem o_sumAL : Op1 oSumA (eL eI) eI sumW := fun x Q E R hr q => ⟨x, intsD_map x, hr _ q⟩
def lrgW (j : Int) : W (List Int) := fun Q _ => (0 ≤ j ∧ j ≤ 16777216) ∧ Q (rgI 0 j.toNat)
def sortW (xs : List Int) : W (List Int) := fun Q _ => ∀ ms : List Int, ms.Perm xs → ms.Pairwise (· ≤ ·) → Q ms
end
section
variable {α β γ σ τ : Type} {ps : SPat} {de di : DT_} {d u d1 d2 : DS_} {De : DEnds} {e : α → D} {f : β → D} {w : W α} {w' : W β} {P : Prop}
def extP (xs ys : List α) (P : Prop) : Prop := szOk (xs.length + ys.length) ∧ P
def popP (xs : List α) (k : Int) (P : List α → α → Prop) : Prop := (-(2 ^ 63) ≤ k ∧ k < 2 ^ 63) ∧ ∃ m v, ixN xs.length k = some m ∧ xs[m]? = some v ∧ P (xs.eraseIdx m) v
theorem ts_parP (i j : Nat) {d1 : DT_} {dn : DN_} {w : W α} {w' : W (List β)} {k : α → List β → Prop} (h : TE ps d1 e w) (h' : TN ps dn f w') (hk : ∀ x y, TS ((ps.set i (some (.v (e x)))).set j (some (.own (y.map f)))) u De (k x y)) :
    TS ps (dSeq (dParP i j d1 dn) u) De (bindP w (fun x => bindP w' (fun y => k x y) De.ex) De.ex) := fun env m p =>
  h env m _ _ _ (fun x q => h' env m _ _ _ (fun y q => hk x y _ ((m.set i _).set j _) q) q) p
end
def eqB {α : Type} [DecidableEq α] (x y : α) : Bool := decide (x = y)
def inB {α : Type} [DecidableEq α] (x : α) (xs : List α) : Bool := decide (x ∈ xs)
theorem eqB_iff {α : Type} [DecidableEq α] (x y : α) : (eqB x y = true) = (x = y) := by unfold eqB; simp
theorem inB_iff {α : Type} [DecidableEq α] (x : α) (xs : List α) : (inB x xs = true) = (x ∈ xs) := by unfold inB; simp
theorem inB_not {α : Type} [DecidableEq α] (x : α) (xs : List α) : (inB x xs = false) = ¬ (x ∈ xs) := by unfold inB; simp
def niA (x : D) (ys : List D) : W Bool := fun Q _ => (plainD x = true ∧ plainDL ys = true ∧ deep x ≤ 150) ∧ Q (!(ys.any fun z => eqD z x))
def isW (x y : Bool) : W Bool := pureW (decide (x = y))
def isNW (x y : Bool) : W Bool := pureW (!decide (x = y))
section
variable {ps : SPat} {ρ : Type} {er : ρ → D} {sp : SpD}
end
theorem o_max2A : Op2B oMaxA eI eI eI max2 := fun x y Q E R hr q => by
  show Q (.it (if y > x then y else x))
  have : (if y > x then y else x) = max x y := by split <;> omega
  rw [this]; exact hr _ q
theorem o_min2A : Op2B oMinA eI eI eI min2 := fun x y Q E R hr q => by
  show Q (.it (if y < x then y else x))
  have : (if y < x then y else x) = min x y := by split <;> omega
  rw [this]; exact hr _ q
section
variable {ps : SPat} {da db dc : DT_}
end
section
variable {ps : SPat} {da : DT_}
end
section
variable {α : Type} {ps : SPat} {de : DT_} {u : DS_} {De : DEnds} {e : α → D}
end
theorem XLink.up {mg : Str → Option Value} {S : Sta} {H : Hp} {Ed Ed' : EK} {E : XK} (l : XLink mg S H Ed E) (h : ∀ x, Ed' x → Ed x) : XLink mg S H Ed' E := fun C dx H' S' x s g r k => l C dx H' S' x s g r (h x k)
def spUp (sp : SpD) : SpD := fun ds Q E => ∃ E', (∀ x, E' x → E x) ∧ sp ds Q E'
section
variable {P : Program} {w : World} {K : PySem.W.Frag} {mg : Str → Option Value} {base : Heap} {k : Nat}
theorem GFn.up {f : Addr} {fd : FuncData} {ps : List Str} {sp : SpD} (F : GFn P w K mg base k f fd ps sp) : GFn P w K mg base k f fd ps (spUp sp) :=
  ⟨fun ds Q E ⟨_, _, h⟩ => F.len ds Q _ h, fun A outer s H args us vs Q E S ds Qd Ed hr hg e0 hb rv g rp ⟨E', hE, hs⟩ k0 l0 => F.run A outer s H args us vs Q E S ds Qd E' hr hg e0 hb rv g rp hs k0 (l0.up hE)⟩
theorem Cal.up {x : Str} {ps : List Str} {sp : SpD} (c : Cal P w K mg base k x ps sp) : Cal P w K mg base k x ps (spUp sp) := let ⟨f, fd, a, b⟩ := c.ex; ⟨f, fd, a.up, b⟩
theorem CalB.up {x : Str} {ps : List Str} {kw : Str} {sp : SpD} (c : CalB P w K mg base k x ps kw sp) : CalB P w K mg base k x ps kw (spUp sp) := let ⟨f, fd, a, b⟩ := c.ex; ⟨f, fd, a.up, b⟩
end
theorem tkD {P : Program} {w : World} {K : PySem.W.Frag} {mg : Str → Option Value} {base : Heap} {N : List Str} {qual : Str} {scope : Scope} {f : Addr} {cd : Value} {A : Around} {outer : List Env} {s : Shared} {H : Hp} {E : XK} :
    Takes (cxD P w K mg base N qual scope f cd A outer s H E) (fun cls d _ H => E cls d H) := takes_of rfl rfl rfl rfl
def noX {α β : Type} (w : W α) (k : α → W β) : W β := fun Q E => w (fun x => k x Q E) (fun _ => False)
def TX {α : Type} (ps : SPat) (d : DT_) (e : α → D) (w : W α) : Prop := ∀ env, Me ps env → ∀ (Q : DK) (E : EK) (R : α → Prop) (E' : EK), (∀ r, R r → Q (e r)) → (∀ x, E' x → E x) → w R E' → d env Q E
def raiseP (E : EK) (cn fn : Str) (d : D) : Prop := E ⟨cn, [(fn, d)]⟩
section
variable {α β : Type} {ps : SPat} {da db de : DT_} {ta : DB_} {wt : W Bool} {w wa wb : W α} {e : α → D} {u : DS_} {De : DEnds}
theorem tx_if (ht : TB ps ta wt) (ha : TX ps da e wa) (hb : TX ps db e wb) : TX ps (dIfX ta da db) e (noX wt fun c => ifW c wa wb) := fun env m Q E R E' hr hE q =>
  ht env m _ _ _ (fun c q => by
    cases c with
    | true => exact ha env m Q E R E' hr hE (by simpa [ifW] using q)
    | false => exact hb env m Q E R E' hr hE (by simpa [ifW] using q)) q
theorem tx_co {e' : β → D} (c : α → β) (h : ∀ x, e x = e' (c x)) (ha : TX ps da e wa) : TX ps da e' (bindW wa fun x => pureW (c x)) := fun env m Q E R E' hr hE q =>
  ha env m Q E _ E' (fun r k => by rw [h r]; exact hr _ k) hE q
theorem ts_raise {cn fn : Str} (h : TE ps de e w) : TS ps (dRaise1 cn fn de) De (bindP w (fun v => raiseP De.ex cn fn (e v)) De.ex) := fun env m p => h env m _ _ _ (fun r k => k) p
def tryP (w : W α) (cs : List Str) (k : α → Prop) (hd : Exn → Prop) : Prop := w k (fun x => x.cls ∈ cs ∧ hd x)
theorem ts_tryS (j i : Nat) {cs : List Str} {hd : Addr → Option Addr → Exn → DS_} {k : α → Prop} {Ph : Exn → Prop} (h : TX ps de e w) (hk : ∀ v, TS (ps.set j (some (.v (e v)))) dNext De (k v)) (hh : ∀ a dx x, TS (ps.set i (some (.xn a dx x))) (hd a dx x) (De.gone i) (Ph x)) : TS ps (dTryS j i cs de hd) De (tryP w cs k Ph) := fun env m p =>
  h env m _ _ _ _ (fun v q => hk v _ (m.set j _) q) (fun x q => ⟨q.1, fun a dx => hh a dx x _ (m.set i _) q.2⟩) p
theorem nx_gone {σ : Type} {psJ : σ → SPat} {K : σ → Prop} {i : Nat} (h : NX De.nx psJ K) (hi : ∀ s, (psJ s)[i]? = some none) : NX (De.gone i).nx psJ K := fun s env m k => h s _ (by
  have q := m.hide i .no
  have e : (psJ s).set i none = psJ s := by
    refine List.ext_getElem? fun n => ?_
    by_cases hn : n = i
    · subst hn
      rw [List.getElem?_set_self (List.getElem?_eq_some_iff.mp (hi s)).1, hi s]
    · rw [List.getElem?_set_ne (Ne.symm hn)]
  rw [e] at q; exact q) k
theorem te_isX (i : Nat) {a : Addr} {dx : Option Addr} {x : Exn} (b : Bool) (hi : ps[i]? = some (some (.xn a dx x))) : TE ps (dIsX i a dx x b) eB (pureW b) := fun env m Q E R hr q => ⟨m.at_ i _ hi, hr _ q⟩
def fldW (x : Exn) (f : Str) : W D := fun Q _ => ∃ v, x.fs.lookup f = some v ∧ Q v
theorem te_fld (i : Nat) {a : Addr} {dx : Option Addr} {x : Exn} (f : Str) (hi : ps[i]? = some (some (.xn a dx x))) : TE ps (dFld i a dx x f) eA (fldW x f) := fun env m Q E R hr q => ⟨m.at_ i _ hi, by obtain ⟨v, h, k⟩ := q; exact ⟨v, h, hr _ k⟩⟩
theorem te_nonA : TE ps (dC .non) eA (pureW D.non) := fun env m Q E R hr q => hr _ q
theorem tx_call1 {ρ : Type} {er : ρ → D} {sp : SpD} {α0 : Type} {e0 : α0 → D} {d0 : DT_} {w0 : W α0} {t : α0 → W ρ} (h : ∀ x0 (Q : DK) E (R : ρ → Prop), (∀ r, R r → Q (er r)) → t x0 R E → sp [e0 x0] Q E) (a0 : TE ps d0 e0 w0) :
    TX ps (dCallX (spUp sp) (dCons d0 dNil)) er (noX w0 fun x0 => t x0) := fun env m Q E R E' hr hE q => a0 env m _ _ _ (fun x0 q => ⟨E', hE, h x0 Q E' R hr q⟩) q
theorem tx_call2 {ρ : Type} {er : ρ → D} {sp : SpD} {α0 : Type} {e0 : α0 → D} {d0 : DT_} {w0 : W α0} {α1 : Type} {e1 : α1 → D} {d1 : DT_} {w1 : W α1} {t : α0 → α1 → W ρ} (h : ∀ x0 x1 (Q : DK) E (R : ρ → Prop), (∀ r, R r → Q (er r)) → t x0 x1 R E → sp [e0 x0, e1 x1] Q E) (a0 : TE ps d0 e0 w0) (a1 : TE ps d1 e1 w1) :
    TX ps (dCallX (spUp sp) (dCons d0 (dCons d1 dNil))) er (noX w0 fun x0 => noX w1 fun x1 => t x0 x1) := fun env m Q E R E' hr hE q => a0 env m _ _ _ (fun x0 q => a1 env m _ _ _ (fun x1 q => ⟨E', hE, h x0 x1 Q E' R hr q⟩) q) q
end
section
variable {α β : Type} {ps : SPat} {e : α → D} {f : β → D}
end
section
variable {ps : SPat} {de : DT_} {u : DS_} {De : DEnds} {w : W Int}
end
section
variable {ps : SPat} {da : DT_}
end
section
variable {ps : SPat} {α β γ : Type} {e : α → D} {f : β → D} {g : γ → D} {u : DS_} {De : DEnds}
end
section
variable {ps : SPat} {da : DT_}
end
section
variable {α β γ : Type} {ps : SPat} {da db dc : DT_} {e : α → D} {f : β → D} {g : γ → D} {u : DA_}
def splW (a b : Str) : W (List Str) := fun Q _ => ((b.length == 0) = false ∧ a.length + 2 ≤ sizeLine) ∧ Q (Txt.split a b)
theorem tn_split {w w' : W Str} (ha : TE ps da eS w) (hb : TE ps db eS w') : TN ps (dSplitN da db) eS (bindW w fun x => bindW w' fun y => splW x y) := fun env m Q E R hr q =>
  ha env m _ E _ (fun x q => hb env m _ E _ (fun y q => ⟨q.1.1, q.1.2, hr _ q.2⟩) q) q
def joinW (a : Str) (ys : List Str) : W Str := fun Q _ => (ys.map (·.length)).sum + ys.length * a.length ≤ 16777216 ∧ Q (Txt.join a ys)
theorem te_joinS {w : W Str} {w' : W (List Str)} (ha : TE ps da eS w) (hb : TE ps db (eL eS) w') : TE ps (dJoin da db) eS (bindW w fun x => bindW w' fun y => joinW x y) := fun env m Q E R hr q =>
  ha env m _ E _ (fun x q => hb env m _ E _ (fun y q => ⟨y, strsD_map y, q.1, hr _ q.2⟩) q) q
def intSW (a : Str) : W Int := fun Q _ => ∃ n, (PySem.intText? a = some n ∧ a.length ≤ 640) ∧ Q n
theorem o_intS : Op1 oIntS eS eI intSW := fun x Q E R hr q => by
  obtain ⟨n, ⟨h1, h2⟩, q⟩ := q
  exact ⟨n, h1, h2, hr _ q⟩
def inSW (a z : Str) : W Bool := fun Q _ => ∃ c, sgn a = some c ∧ Q (decide (c ∈ z.cps.toList))
theorem o_inS : Op2 oInS eS eS eB inSW := fun x y Q E R hr q => by
  obtain ⟨c, h1, q⟩ := q
  exact ⟨c, h1, hr _ q⟩
def ixS (z : Str) (i : Int) : W Str := fun Q _ => ∃ c, (szOk z.length ∧ atI z.cps.toList i = some c) ∧ Q ⟨#[c]⟩
theorem o_ixS : Op2 oIx eS eI eS ixS := fun x y Q E R hr q => by
  obtain ⟨c, ⟨h1, h2⟩, q⟩ := q
  refine ⟨h1, ?_⟩
  show match atI x.cps.toList y with | some c => Q (.st ⟨#[c]⟩) | none => False
  rw [h2]; exact hr _ q
def partW (y : Str) : W Str := fun Q _ => y.length ≤ 1000000 ∧ Q y
def catL : Str → List Str → Str
  | acc, [] => acc
  | acc, y :: r => catL (acc ++ y) r
def TJ (ps : SPat) (n : Nat) (u : DJ_) (w : W (List Str)) : Prop := ∀ env, Me ps env → ∀ (acc : Str) (Q : Str → Prop) (E : EK) (R : List Str → Prop), acc.length ≤ n * 1000000 → (∀ ys, R ys → Q (catL acc ys)) → w R E → u acc env Q E
theorem tj_nil {n : Nat} : TJ ps n djNil (pureW []) := fun env m acc Q E R _ hr q => hr [] q
theorem len_app (a b : Str) : (a ++ b).length = a.length + b.length := by
  rw [_root_.TL.len_tl, _root_.TL.len_tl, _root_.TL.len_tl, _root_.TL.tl_append, List.length_append]
theorem tj_cons {n : Nat} {u : DJ_} {w : W Str} {k : W (List Str)} (h : TE ps da eS w) (hk : TJ ps (n + 1) u k) (hn : (n + 1) * 1000000 ≤ sizeLine := by decide) : TJ ps n (djCons da u) (bindW w fun y => bindW (partW y) fun y => bindW k fun ys => pureW (y :: ys)) := fun env m acc Q E R ha hr q =>
  h env m _ E _ (fun y q => by
    have hl : (acc ++ y).length ≤ (n + 1) * 1000000 := by rw [len_app]; have := q.1; omega
    exact ⟨Nat.le_trans hl hn, hk env m (acc ++ y) Q E _ hl (fun ys r => hr (y :: ys) r) q.2⟩) q
def fcatW (ys : List Str) : W Str := pureW (catL Str.empty ys)
theorem te_fstr {u : DJ_} {w : W (List Str)} (h : TJ ps 0 u w) : TE ps (dFStr u) eS (bindW w fcatW) := fun env m Q E R hr q =>
  h env m Str.empty _ E _ (Nat.zero_le _) (fun ys r => hr _ r) q
theorem te_fmtI {w : W Int} (h : TE ps da eI w) : TE ps (dFmt da) eS (bindW w strW) := fun env m Q E R hr q =>
  h env m _ E _ (fun x q => ⟨q.1, hr _ q.2⟩) q
def sgns (z : Str) : List Str := z.cps.toList.map fun c => (⟨#[c]⟩ : Str)
theorem ti_S {w : W Str} (ha : TE ps da eS w) : TI ps (dSgns da) eS (bindW w fun z => pureW (sgns z)) := fun env m Q E R hr q =>
  ha env m _ E _ (fun z q => by
    have := hr _ q
    unfold sgns at this
    rw [List.map_map] at this
    exact this) q
def getAllW (xs : List (Option α)) : W (List α) := fun Q _ => ∃ ys, xs = ys.map some ∧ Q ys
theorem te_getAllT {w : W (List (Option α))} (ha : TE ps da (eT (eO e)) w) : TE ps da (eT e) (bindW w getAllW) := fun env m Q E R hr q =>
  ha env m Q E _ (fun r k => by
    obtain ⟨x, rfl, h⟩ := k
    have := hr _ h
    unfold eT at this ⊢
    rw [List.map_map]; exact this) q
theorem te_getAllL {w : W (List (Option α))} (ha : TE ps da (eL (eO e)) w) : TE ps da (eL e) (bindW w getAllW) := fun env m Q E R hr q =>
  ha env m Q E _ (fun r k => by
    obtain ⟨x, rfl, h⟩ := k
    have := hr _ h
    unfold eL at this ⊢
    rw [List.map_map]; exact this) q
end
section
variable {ps : SPat} {da db dc : DT_}
def mulTxW (z : Str) (n : Int) : W Str := fun Q _ => (0 ≤ n ∧ n ≤ 16777216 ∧ z.length * n.toNat ≤ 16777216) ∧ Q (PySem.Txt.mul z n)
theorem o_mulTx : Op2 oMulTx eS eI eS mulTxW := fun x y Q E R hr q => ⟨q.1, hr _ q.2⟩
def countSW (a b : Str) : W Int := fun Q _ => Q (PySem.Txt.count a b)
theorem te_countS {w w' : W Str} (ha : TE ps da eS w) (hb : TE ps db eS w') : TE ps (dCountS da db) eI (bindW w fun x => bindW w' fun y => countSW x y) := fun env m Q E R hr q =>
  ha env m _ E _ (fun x q => hb env m _ E _ (fun y q => hr _ q) q) q
def indexSW (a b : Str) : W Int := fun Q _ => ∃ (i : Nat) (rest : List Nat), Builtin.Str.occurrences a b 0 a.length 1 = i :: rest ∧ Q (i : Nat)
theorem te_indexS {w w' : W Str} (ha : TE ps da eS w) (hb : TE ps db eS w') : TE ps (dIndexS da db) eI (bindW w fun x => bindW w' fun y => indexSW x y) := fun env m Q E R hr q =>
  ha env m _ E _ (fun x q => hb env m _ E _ (fun y q => by
    obtain ⟨i, rest, ho, q⟩ := q
    exact ⟨i, rest, ho, hr _ q⟩) q) q
def niSW (a z : Str) : W Bool := fun Q _ => ∃ c, sgn a = some c ∧ Q (!decide (c ∈ z.cps.toList))
theorem o_niS : Op2 oNotInS eS eS eB niSW := fun x y Q E R hr q => by
  obtain ⟨c, h1, q⟩ := q
  exact ⟨c, h1, hr _ q⟩
def cutSW (z : Str) (lo hi : Option Int) : W Str := fun Q _ => szOk z.length ∧ Q (cutS z lo hi)
theorem te_slS {w : W Str} {dl dh : DO_} {wl wh : W (Option Int)} (ha : TE ps da eS w) (hl : TP ps dl wl) (hh : TP ps dh wh) : TE ps (dSl da dl dh) eS (bindW w fun z => bindW wl fun l => bindW wh fun h => cutSW z l h) := fun env m Q E R hr q =>
  ha env m _ E _ (fun z q => hl env m _ E _ (fun l q => hh env m _ E _ (fun h q => ⟨q.1, hr _ q.2⟩) q) q) q
end
section
variable {α : Type} {e : α → D} {ps : SPat} {da : DT_} {w : W (List α)}
def unq2 (xs : List α) : W (α × α) := fun Q _ => ∃ p : α × α, xs = [p.1, p.2] ∧ Q p
theorem te_unq2 (ha : TE ps da (eL e) w) : TE ps da (eQ e e) (bindW w unq2) := fun env m Q E R hr q => ha env m Q E _ (fun xs q => by obtain ⟨p, rfl, k⟩ := q; exact hr p k) q
end
abbrev eBx : Unit → D := fun _ => dBox
abbrev sp__law_draw : SpD := spDraw
def t__law_draw (_ : Unit) (many : Int) : W Int := fun Q _ => (0 < many ∧ many < 2 ^ 200) ∧ ∀ r, 0 ≤ r → r < many → Q r
theorem c__law_draw (u : Unit) (many : Int) (Qd : DK) (E : EK) (R : Int → Prop) (hr : ∀ r, R r → Qd (eI r)) (q : t__law_draw u many R E) : sp__law_draw [eBx u, eI many] Qd E := ⟨many, rfl, q.1.1, q.1.2, fun r a b => hr r (q.2 r a b)⟩
def sp__law_one : SpD := fun ds Q _ => match ds with | [.bx false P, x] => P = IsB1 ∧ (match seqOf x with | some ys => ys ≠ [] ∧ ys.length ≤ 1000 ∧ ∀ y ∈ ys, Q y | none => False) | _ => False
def t__law_one {α : Type} (_ : Unit) (xs : List α) : W α := fun Q _ => (xs ≠ [] ∧ xs.length ≤ 1000) ∧ ∀ y ∈ xs, Q y
theorem c__law_one {α : Type} {e : α → D} (u : Unit) (xs : List α) (Qd : DK) (E : EK) (R : α → Prop) (hr : ∀ r, R r → Qd (e r)) (q : t__law_one u xs R E) : sp__law_one [eBx u, eL e xs] Qd E := ⟨rfl, fun z => q.1.1 (List.map_eq_nil_iff.mp z), by rw [List.length_map]; exact q.1.2, fun y hy => by
  obtain ⟨x, hx, rfl⟩ := List.mem_map.mp hy
  exact hr x (q.2 x hx)⟩
def sp__law_odd : SpD := fun ds Q _ => ds = [dBox] ∧ ∀ d, Sm 14 3 d → Q d
def t__law_odd (_ : Unit) : W D := fun Q _ => ∀ d, Sm 14 3 d → Q d
theorem c__law_odd (u : Unit) (Qd : DK) (E : EK) (R : D → Prop) (hr : ∀ r, R r → Qd (eA r)) (q : t__law_odd u R E) : sp__law_odd [eBx u] Qd E := ⟨rfl, fun d h => hr d (q d h)⟩
abbrev xcs : List Str := ["BadText"]
def t_is_integer (value_1 : D) (low_2 : Int) (high_3 : Int) : W Bool := fun Q E => (if isT "int" (eA value_1) = true then (if (!(isT "bool" (eA value_1))) = true then ∃ y, value_1 = eI y ∧ (if decide (low_2 ≤ y) = true then Q (decide (y ≤ high_3)) else Q false) else Q false) else Q false)
theorem u_is_integer  (value_1 : D) (low_2 : Int) (high_3 : Int) (Q : Bool → Prop) (E : EK) (q : (if isT "int" (eA value_1) = true then (if (!(isT "bool" (eA value_1))) = true then ∃ y, value_1 = eI y ∧ (if decide (low_2 ≤ y) = true then Q (decide (y ≤ high_3)) else Q false) else Q false) else Q false)) : ((bindW (bindW (pureW value_1) fun x => pureW (isT "int" (eA x))) fun c => ifW c (bindW (bindW (bindW (pureW value_1) fun x => pureW (isT "bool" (eA x))) fun c => pureW (!c)) fun c => ifW c (bindW (pureW low_2) fun x => bindW (bindW (pureW value_1) (asW eI)) fun y => bindW (leI x y) fun c => ifW c (bindW (pureW high_3) fun z => leI y z) (pureW false)) (pureW false)) (pureW false)) Q E) := q
def sp_is_integer : SpD := fun ds Qd E => ∃ (value_1 : D) (low_2 : Int) (high_3 : Int) (R : Bool → Prop), ds = [eA value_1, eI low_2, eI high_3] ∧ (∀ r, R r → Qd (eB r)) ∧ t_is_integer value_1 low_2 high_3 R E
theorem c_is_integer (value_1 : D) (low_2 : Int) (high_3 : Int) (Qd : DK) (E : EK) (R : Bool → Prop) (hr : ∀ r, R r → Qd (eB r)) (q : t_is_integer value_1 low_2 high_3 R E) : sp_is_integer [eA value_1, eI low_2, eI high_3] Qd E := ⟨value_1, low_2, high_3, R, rfl, hr, q⟩
theorem len_is_integer : ∀ ds Q E, sp_is_integer ds Q E → ds.length = 3 := by rintro ds Q E ⟨_, _, _, _, rfl, _⟩; rfl
def t_debt_of (pile_4 : (List (Int × Int))) : W Int := fun Q E => pile_4.length ≤ sizeLine ∧ lcP (fun a Q E => Q true) (fun a Q E => Q a.2) (fun _ => False) pile_4 [] (fun ys => Q ys.sum)
theorem u_debt_of  (pile_4 : (List (Int × Int))) (Q : Int → Prop) (E : EK) (q : pile_4.length ≤ sizeLine ∧ lcP (fun a Q E => Q true) (fun a Q E => Q a.2) (fun _ => False) pile_4 [] (fun ys => Q ys.sum)) : ((bindW (bindW (pureW pile_4) fun xs => lcW (fun a_5 => (pureW true)) (fun a_5 => (pureW a_5.2)) xs) sumW) Q E) := q
def sp_debt_of : SpD := fun ds Qd E => ∃ (pile_4 : (List (Int × Int))) (R : Int → Prop), ds = [(eT (eP eI eI)) pile_4] ∧ (∀ r, R r → Qd (eI r)) ∧ t_debt_of pile_4 R E
theorem c_debt_of (pile_4 : (List (Int × Int))) (Qd : DK) (E : EK) (R : Int → Prop) (hr : ∀ r, R r → Qd (eI r)) (q : t_debt_of pile_4 R E) : sp_debt_of [(eT (eP eI eI)) pile_4] Qd E := ⟨pile_4, R, rfl, hr, q⟩
theorem len_debt_of : ∀ ds Q E, sp_debt_of ds Q E → ds.length = 1 := by rintro ds Q E ⟨_, _, rfl, _⟩; rfl
def t_debts (book_6 : (List (Int × (List (Int × Int))))) : W (List Int) := fun Q E => book_6.length ≤ sizeLine ∧ lcP (fun a Q E => Q true) (fun a Q E => t_debt_of a.2 Q E) (fun _ => False) book_6 [] Q
theorem u_debts (b_debt_of : (List (Int × Int)) → W Int) (book_6 : (List (Int × (List (Int × Int))))) (Q : (List Int) → Prop) (E : EK) (q : book_6.length ≤ sizeLine ∧ lcP (fun a Q E => Q true) (fun a Q E => b_debt_of a.2 Q E) (fun _ => False) book_6 [] Q) : ((bindW (bindW (pureW book_6) fun xs => lcW (fun a_7 => (pureW true)) (fun a_7 => (bindW (pureW a_7.2) fun x0 => b_debt_of x0)) xs) sameW) Q E) := q
def sp_debts : SpD := fun ds Qd E => ∃ (book_6 : (List (Int × (List (Int × Int))))) (R : (List Int) → Prop), ds = [(eT (eP eI (eT (eP eI eI)))) book_6] ∧ (∀ r, R r → Qd ((eT eI) r)) ∧ t_debts book_6 R E
theorem c_debts (book_6 : (List (Int × (List (Int × Int))))) (Qd : DK) (E : EK) (R : (List Int) → Prop) (hr : ∀ r, R r → Qd ((eT eI) r)) (q : t_debts book_6 R E) : sp_debts [(eT (eP eI (eT (eP eI eI)))) book_6] Qd E := ⟨book_6, R, rfl, hr, q⟩
theorem len_debts : ∀ ds Q E, sp_debts ds Q E → ds.length = 1 := by rintro ds Q E ⟨_, _, rfl, _⟩; rfl
def t_number_in (word_8 : Str) : W (Option Int) := fun Q E => szOk word_8.length ∧ (if decide ((1 : Int) ≤ (word_8.length : Int)) = true then (if (!(decide ((word_8.length : Int) ≤ (13 : Int)))) = true then Q (none : (Option Int)) else (sgns word_8).length ≤ sizeLine ∧ lcP (fun a Q E => Q true) (fun a Q E => ∃ c, sgn a = some c ∧ Q (decide (c ∈ ("0123456789" : Str).cps.toList))) (fun _ => False) (sgns word_8) [] (fun ys => (if (!(ys.all id)) = true then Q (none : (Option Int)) else ∃ c, (szOk word_8.length ∧ atI word_8.cps.toList (0 : Int) = some c) ∧ (if eqB (⟨#[c]⟩ : Str) ("0" : Str) = true then (if (!(eqB word_8 ("0" : Str))) = true then Q (none : (Option Int)) else ∃ n, (PySem.intText? word_8 = some n ∧ word_8.length ≤ 640) ∧ Q (some n)) else ∃ n, (PySem.intText? word_8 = some n ∧ word_8.length ≤ 640) ∧ Q (some n))))) else Q (none : (Option Int)))
theorem u_number_in  (word_8 : Str) (Q : (Option Int) → Prop) (E : EK) (q : szOk word_8.length ∧ (if decide ((1 : Int) ≤ (word_8.length : Int)) = true then (if (!(decide ((word_8.length : Int) ≤ (13 : Int)))) = true then Q (none : (Option Int)) else (sgns word_8).length ≤ sizeLine ∧ lcP (fun a Q E => Q true) (fun a Q E => ∃ c, sgn a = some c ∧ Q (decide (c ∈ ("0123456789" : Str).cps.toList))) (fun _ => False) (sgns word_8) [] (fun ys => (if (!(ys.all id)) = true then Q (none : (Option Int)) else ∃ c, (szOk word_8.length ∧ atI word_8.cps.toList (0 : Int) = some c) ∧ (if eqB (⟨#[c]⟩ : Str) ("0" : Str) = true then (if (!(eqB word_8 ("0" : Str))) = true then Q (none : (Option Int)) else ∃ n, (PySem.intText? word_8 = some n ∧ word_8.length ≤ 640) ∧ Q (some n)) else ∃ n, (PySem.intText? word_8 = some n ∧ word_8.length ≤ 640) ∧ Q (some n))))) else Q (none : (Option Int)))) : bindP (bindW (bindW (bindW (pureW (1 : Int)) fun x => bindW (bindW (pureW word_8) lenS) fun y => bindW (leI x y) fun c => ifW c (bindW (pureW (13 : Int)) fun z => leI y z) (pureW false)) fun c => pureW (!c)) fun c => ifW c (pureW true) (bindW (bindW (bindW (bindW (pureW word_8) fun z => pureW (sgns z)) fun xs => lcW (fun a_9 => (pureW true)) (fun a_9 => (bindW (pureW a_9) fun x => bindW (pureW ("0123456789" : Str)) fun y => inSW x y)) xs) allW) fun c => pureW (!c))) (fun b => ifP b (((bindW (pureW ()) fun _ => pureW (none : (Option Int))) Q E)) (((bindW (bindW (bindW (bindW (pureW word_8) fun x => bindW (pureW (0 : Int)) fun y => ixS x y) fun x => bindW (pureW ("0" : Str)) fun y => eqW x y) fun c => ifW c (bindW (pureW word_8) fun x => bindW (pureW ("0" : Str)) fun y => neW x y) (pureW false)) fun c => ifW c (bindW (pureW ()) fun _ => pureW (none : (Option Int))) (bindW (bindW (pureW word_8) intSW) fun x => pureW (some x))) Q E))) E := q
def sp_number_in : SpD := fun ds Qd E => ∃ (word_8 : Str) (R : (Option Int) → Prop), ds = [eS word_8] ∧ (∀ r, R r → Qd ((eO eI) r)) ∧ t_number_in word_8 R E
theorem c_number_in (word_8 : Str) (Qd : DK) (E : EK) (R : (Option Int) → Prop) (hr : ∀ r, R r → Qd ((eO eI) r)) (q : t_number_in word_8 R E) : sp_number_in [eS word_8] Qd E := ⟨word_8, R, rfl, hr, q⟩
theorem len_number_in : ∀ ds Q E, sp_number_in ds Q E → ds.length = 1 := by rintro ds Q E ⟨_, _, rfl, _⟩; rfl
def t_slip_text (slip_10 : (Int × Int)) : W Str := fun Q E => slip_10.1.natAbs.log2 < 1920 ∧ (strI slip_10.1).length ≤ 1000000 ∧ ("-" : Str).length ≤ 1000000 ∧ slip_10.2.natAbs.log2 < 1920 ∧ (strI slip_10.2).length ≤ 1000000 ∧ Q (catL Str.empty [strI slip_10.1, ("-" : Str), strI slip_10.2])
theorem u_slip_text  (slip_10 : (Int × Int)) (Q : Str → Prop) (E : EK) (q : slip_10.1.natAbs.log2 < 1920 ∧ (strI slip_10.1).length ≤ 1000000 ∧ ("-" : Str).length ≤ 1000000 ∧ slip_10.2.natAbs.log2 < 1920 ∧ (strI slip_10.2).length ≤ 1000000 ∧ Q (catL Str.empty [strI slip_10.1, ("-" : Str), strI slip_10.2])) : ((bindW (bindW (bindW (bindW (pureW slip_10) fun p => pureW p.1) strW) fun y => bindW (partW y) fun x => bindW (bindW (pureW ("-" : Str)) fun y => bindW (partW y) fun x => bindW (bindW (bindW (bindW (pureW slip_10) fun p => pureW p.2) strW) fun y => bindW (partW y) fun x => bindW (pureW []) fun xs => pureW (x :: xs)) fun xs => pureW (x :: xs)) fun xs => pureW (x :: xs)) fcatW) Q E) := q
def sp_slip_text : SpD := fun ds Qd E => ∃ (slip_10 : (Int × Int)) (R : Str → Prop), ds = [(eP eI eI) slip_10] ∧ (∀ r, R r → Qd (eS r)) ∧ t_slip_text slip_10 R E
theorem c_slip_text (slip_10 : (Int × Int)) (Qd : DK) (E : EK) (R : Str → Prop) (hr : ∀ r, R r → Qd (eS r)) (q : t_slip_text slip_10 R E) : sp_slip_text [(eP eI eI) slip_10] Qd E := ⟨slip_10, R, rfl, hr, q⟩
theorem len_slip_text : ∀ ds Q E, sp_slip_text ds Q E → ds.length = 1 := by rintro ds Q E ⟨_, _, rfl, _⟩; rfl
def t_house_text (house_11 : (Int × (List (Int × Int)))) : W Str := fun Q E => house_11.1.natAbs.log2 < 1920 ∧ (strI house_11.1).length ≤ 1000000 ∧ (":" : Str).length ≤ 1000000 ∧ house_11.2.length ≤ sizeLine ∧ lcP (fun a Q E => Q true) (fun a Q E => t_slip_text a Q E) (fun _ => False) house_11.2 [] (fun ys => (ys.map (·.length)).sum + ys.length * ("," : Str).length ≤ 16777216 ∧ szOk ((catL Str.empty [strI house_11.1, (":" : Str)]).length + (Txt.join ("," : Str) ys).length) ∧ Q (catL Str.empty [strI house_11.1, (":" : Str)] ++ Txt.join ("," : Str) ys))
theorem u_house_text (b_slip_text : (Int × Int) → W Str) (house_11 : (Int × (List (Int × Int)))) (Q : Str → Prop) (E : EK) (q : house_11.1.natAbs.log2 < 1920 ∧ (strI house_11.1).length ≤ 1000000 ∧ (":" : Str).length ≤ 1000000 ∧ house_11.2.length ≤ sizeLine ∧ lcP (fun a Q E => Q true) (fun a Q E => b_slip_text a Q E) (fun _ => False) house_11.2 [] (fun ys => (ys.map (·.length)).sum + ys.length * ("," : Str).length ≤ 16777216 ∧ szOk ((catL Str.empty [strI house_11.1, (":" : Str)]).length + (Txt.join ("," : Str) ys).length) ∧ Q (catL Str.empty [strI house_11.1, (":" : Str)] ++ Txt.join ("," : Str) ys))) : bindP (pureW house_11) (fun z_12 => ((bindW (bindW (bindW (bindW (pureW z_12.1) strW) fun y => bindW (partW y) fun x => bindW (bindW (pureW (":" : Str)) fun y => bindW (partW y) fun x => bindW (pureW []) fun xs => pureW (x :: xs)) fun xs => pureW (x :: xs)) fcatW) fun x => bindW (bindW (pureW ("," : Str)) fun x => bindW (bindW (pureW z_12.2) fun xs => lcW (fun a_13 => (pureW true)) (fun a_13 => (bindW (pureW a_13) fun x0 => b_slip_text x0)) xs) fun y => joinW x y) fun y => catS x y) Q E)) E := q
def sp_house_text : SpD := fun ds Qd E => ∃ (house_11 : (Int × (List (Int × Int)))) (R : Str → Prop), ds = [(eP eI (eT (eP eI eI))) house_11] ∧ (∀ r, R r → Qd (eS r)) ∧ t_house_text house_11 R E
theorem c_house_text (house_11 : (Int × (List (Int × Int)))) (Qd : DK) (E : EK) (R : Str → Prop) (hr : ∀ r, R r → Qd (eS r)) (q : t_house_text house_11 R E) : sp_house_text [(eP eI (eT (eP eI eI))) house_11] Qd E := ⟨house_11, R, rfl, hr, q⟩
theorem len_house_text : ∀ ds Q E, sp_house_text ds Q E → ds.length = 1 := by rintro ds Q E ⟨_, _, rfl, _⟩; rfl
def t_book_text (book_14 : (List (Int × (List (Int × Int))))) : W Str := fun Q E => book_14.length ≤ sizeLine ∧ lcP (fun a Q E => Q true) (fun a Q E => t_house_text a Q E) (fun _ => False) book_14 [] (fun ys => (ys.map (·.length)).sum + ys.length * (" " : Str).length ≤ 16777216 ∧ Q (Txt.join (" " : Str) ys))
theorem u_book_text (b_house_text : (Int × (List (Int × Int))) → W Str) (book_14 : (List (Int × (List (Int × Int))))) (Q : Str → Prop) (E : EK) (q : book_14.length ≤ sizeLine ∧ lcP (fun a Q E => Q true) (fun a Q E => b_house_text a Q E) (fun _ => False) book_14 [] (fun ys => (ys.map (·.length)).sum + ys.length * (" " : Str).length ≤ 16777216 ∧ Q (Txt.join (" " : Str) ys))) : ((bindW (pureW (" " : Str)) fun x => bindW (bindW (pureW book_14) fun xs => lcW (fun a_15 => (pureW true)) (fun a_15 => (bindW (pureW a_15) fun x0 => b_house_text x0)) xs) fun y => joinW x y) Q E) := q
def sp_book_text : SpD := fun ds Qd E => ∃ (book_14 : (List (Int × (List (Int × Int))))) (R : Str → Prop), ds = [(eT (eP eI (eT (eP eI eI)))) book_14] ∧ (∀ r, R r → Qd (eS r)) ∧ t_book_text book_14 R E
theorem c_book_text (book_14 : (List (Int × (List (Int × Int))))) (Qd : DK) (E : EK) (R : Str → Prop) (hr : ∀ r, R r → Qd (eS r)) (q : t_book_text book_14 R E) : sp_book_text [(eT (eP eI (eT (eP eI eI)))) book_14] Qd E := ⟨book_14, R, rfl, hr, q⟩
theorem len_book_text : ∀ ds Q E, sp_book_text ds Q E → ds.length = 1 := by rintro ds Q E ⟨_, _, rfl, _⟩; rfl
def t_payments_text (payments_16 : (List Int)) : W Str := fun Q E => payments_16.length ≤ sizeLine ∧ lcP (fun a Q E => Q true) (fun a Q E => a.natAbs.log2 < 1920 ∧ Q (strI a)) (fun _ => False) payments_16 [] (fun ys => (ys.map (·.length)).sum + ys.length * (" " : Str).length ≤ 16777216 ∧ Q (Txt.join (" " : Str) ys))
theorem u_payments_text  (payments_16 : (List Int)) (Q : Str → Prop) (E : EK) (q : payments_16.length ≤ sizeLine ∧ lcP (fun a Q E => Q true) (fun a Q E => a.natAbs.log2 < 1920 ∧ Q (strI a)) (fun _ => False) payments_16 [] (fun ys => (ys.map (·.length)).sum + ys.length * (" " : Str).length ≤ 16777216 ∧ Q (Txt.join (" " : Str) ys))) : ((bindW (pureW (" " : Str)) fun x => bindW (bindW (pureW payments_16) fun xs => lcW (fun a_17 => (pureW true)) (fun a_17 => (bindW (pureW a_17) strW)) xs) fun y => joinW x y) Q E) := q
def sp_payments_text : SpD := fun ds Qd E => ∃ (payments_16 : (List Int)) (R : Str → Prop), ds = [(eT eI) payments_16] ∧ (∀ r, R r → Qd (eS r)) ∧ t_payments_text payments_16 R E
theorem c_payments_text (payments_16 : (List Int)) (Qd : DK) (E : EK) (R : Str → Prop) (hr : ∀ r, R r → Qd (eS r)) (q : t_payments_text payments_16 R E) : sp_payments_text [(eT eI) payments_16] Qd E := ⟨payments_16, R, rfl, hr, q⟩
theorem len_payments_text : ∀ ds Q E, sp_payments_text ds Q E → ds.length = 1 := by rintro ds Q E ⟨_, _, rfl, _⟩; rfl
def t_slip_in (word_18 : Str) : W (Option (Int × Int)) := fun Q E => ((("-" : Str).length == 0) = false ∧ word_18.length + 2 ≤ sizeLine) ∧ (Txt.split word_18 ("-" : Str)).length ≤ sizeLine ∧ lcP (fun a Q E => Q true) (fun a Q E => t_number_in a Q E) (fun _ => False) (Txt.split word_18 ("-" : Str)) [] (fun ys => (if (!(decide ((ys.length : Int) = (2 : Int)))) = true then Q (none : (Option (Int × Int))) else ∃ x, atI ys (0 : Int) = some x ∧ t_is_integer (eO eI x) (0 : Int) ((6 : Int) - (1 : Int)) (fun r => (if (!r) = true then Q (none : (Option (Int × Int))) else ∃ x2, atI ys (1 : Int) = some x2 ∧ t_is_integer (eO eI x2) (1 : Int) (1000000000 : Int) (fun r2 => (if r2 = true then ∃ x3, atI ys (0 : Int) = some x3 ∧ ∃ x4, x3 = some x4 ∧ ∃ x5, atI ys (1 : Int) = some x5 ∧ ∃ x6, x5 = some x6 ∧ Q (some (x4, x6)) else Q (none : (Option (Int × Int))))) E)) E))
theorem u_slip_in (b_number_in : Str → W (Option Int)) (b_is_integer : D → Int → Int → W Bool) (word_18 : Str) (Q : (Option (Int × Int)) → Prop) (E : EK) (q : ((("-" : Str).length == 0) = false ∧ word_18.length + 2 ≤ sizeLine) ∧ (Txt.split word_18 ("-" : Str)).length ≤ sizeLine ∧ lcP (fun a Q E => Q true) (fun a Q E => b_number_in a Q E) (fun _ => False) (Txt.split word_18 ("-" : Str)) [] (fun ys => (if (!(decide ((ys.length : Int) = (2 : Int)))) = true then Q (none : (Option (Int × Int))) else ∃ x, atI ys (0 : Int) = some x ∧ b_is_integer (eO eI x) (0 : Int) ((6 : Int) - (1 : Int)) (fun r => (if (!r) = true then Q (none : (Option (Int × Int))) else ∃ x2, atI ys (1 : Int) = some x2 ∧ b_is_integer (eO eI x2) (1 : Int) (1000000000 : Int) (fun r2 => (if r2 = true then ∃ x3, atI ys (0 : Int) = some x3 ∧ ∃ x4, x3 = some x4 ∧ ∃ x5, atI ys (1 : Int) = some x5 ∧ ∃ x6, x5 = some x6 ∧ Q (some (x4, x6)) else Q (none : (Option (Int × Int))))) E)) E))) : bindP (bindW (bindW (pureW word_18) fun x => bindW (pureW ("-" : Str)) fun y => splW x y) fun xs => lcW (fun a_20 => (pureW true)) (fun a_20 => (bindW (pureW a_20) fun x0 => b_number_in x0)) xs) (fun numbers_19 => bindP (bindW (bindW (bindW (pureW numbers_19) lenW) fun x => bindW (pureW (2 : Int)) fun y => neI x y) fun c => ifW c (pureW true) (bindW (bindW (bindW (bindW (pureW numbers_19) fun x => bindW (pureW (0 : Int)) fun y => ixW x y) fun x => pureW ((eO eI) x)) fun x0 => bindW (pureW (0 : Int)) fun x1 => bindW (bindW (pureW (6 : Int)) fun x => bindW (pureW (1 : Int)) fun y => subI x y) fun x2 => b_is_integer x0 x1 x2) fun c => pureW (!c))) (fun b => ifP b (((bindW (pureW ()) fun _ => pureW (none : (Option (Int × Int)))) Q E)) (((bindW (bindW (bindW (bindW (pureW numbers_19) fun x => bindW (pureW (1 : Int)) fun y => ixW x y) fun x => pureW ((eO eI) x)) fun x0 => bindW (pureW (1 : Int)) fun x1 => bindW (pureW (1000000000 : Int)) fun x2 => b_is_integer x0 x1 x2) fun c => ifW c (bindW (bindW (bindW (bindW (pureW numbers_19) fun x => bindW (pureW (0 : Int)) fun y => ixW x y) getW) fun x => bindW (bindW (bindW (pureW numbers_19) fun x => bindW (pureW (1 : Int)) fun y => ixW x y) getW) fun y => pureW (x, y)) fun x => pureW (some x)) (bindW (pureW ()) fun _ => pureW (none : (Option (Int × Int))))) Q E))) E) E := q
def sp_slip_in : SpD := fun ds Qd E => ∃ (word_18 : Str) (R : (Option (Int × Int)) → Prop), ds = [eS word_18] ∧ (∀ r, R r → Qd ((eO (eP eI eI)) r)) ∧ t_slip_in word_18 R E
theorem c_slip_in (word_18 : Str) (Qd : DK) (E : EK) (R : (Option (Int × Int)) → Prop) (hr : ∀ r, R r → Qd ((eO (eP eI eI)) r)) (q : t_slip_in word_18 R E) : sp_slip_in [eS word_18] Qd E := ⟨word_18, R, rfl, hr, q⟩
theorem len_slip_in : ∀ ds Q E, sp_slip_in ds Q E → ds.length = 1 := by rintro ds Q E ⟨_, _, rfl, _⟩; rfl
def t_house_in (word_21 : Str) : W (Option (Int × (List (Int × Int)))) := fun Q E => (((":" : Str).length == 0) = false ∧ word_21.length + 2 ≤ sizeLine) ∧ (if (!(decide (((Txt.split word_21 (":" : Str)).length : Int) = (2 : Int)))) = true then Q (none : (Option (Int × (List (Int × Int))))) else ∃ x, atI (Txt.split word_21 (":" : Str)) (0 : Int) = some x ∧ t_number_in x (fun r => t_is_integer (eO eI r) (0 : Int) (1000000000000 : Int) (fun r2 => (if (!r2) = true then Q (none : (Option (Int × (List (Int × Int))))) else ∃ x2, atI (Txt.split word_21 (":" : Str)) (1 : Int) = some x2 ∧ (joinP (fun K => if (!(eqB x2 ("" : Str))) = true then ∃ x3, atI (Txt.split word_21 (":" : Str)) (1 : Int) = some x3 ∧ ((("," : Str).length == 0) = false ∧ x3.length + 2 ≤ sizeLine) ∧ (Txt.split x3 ("," : Str)).length ≤ sizeLine ∧ lcP (fun a Q E => Q true) (fun a Q E => t_slip_in a Q E) (fun _ => False) (Txt.split x3 ("," : Str)) [] K else szOk 0 ∧ K []) (fun b => (if inB (none : (Option (Int × Int))) b = true then Q (none : (Option (Int × (List (Int × Int))))) else (if decide ((6 : Int) < (b.length : Int)) = true then Q (none : (Option (Int × (List (Int × Int))))) else ∃ x3, atI (Txt.split word_21 (":" : Str)) (0 : Int) = some x3 ∧ t_number_in x3 (fun r3 => ∃ x4, r3 = some x4 ∧ ∃ ys, b = ys.map some ∧ Q (some (x4, ys))) E)))))) E) E)
theorem u_house_in (b_number_in : Str → W (Option Int)) (b_is_integer : D → Int → Int → W Bool) (b_slip_in : Str → W (Option (Int × Int))) (word_21 : Str) (Q : (Option (Int × (List (Int × Int)))) → Prop) (E : EK) (q : (((":" : Str).length == 0) = false ∧ word_21.length + 2 ≤ sizeLine) ∧ (if (!(decide (((Txt.split word_21 (":" : Str)).length : Int) = (2 : Int)))) = true then Q (none : (Option (Int × (List (Int × Int))))) else ∃ x, atI (Txt.split word_21 (":" : Str)) (0 : Int) = some x ∧ b_number_in x (fun r => b_is_integer (eO eI r) (0 : Int) (1000000000000 : Int) (fun r2 => (if (!r2) = true then Q (none : (Option (Int × (List (Int × Int))))) else ∃ x2, atI (Txt.split word_21 (":" : Str)) (1 : Int) = some x2 ∧ (joinP (fun K => if (!(eqB x2 ("" : Str))) = true then ∃ x3, atI (Txt.split word_21 (":" : Str)) (1 : Int) = some x3 ∧ ((("," : Str).length == 0) = false ∧ x3.length + 2 ≤ sizeLine) ∧ (Txt.split x3 ("," : Str)).length ≤ sizeLine ∧ lcP (fun a Q E => Q true) (fun a Q E => b_slip_in a Q E) (fun _ => False) (Txt.split x3 ("," : Str)) [] K else szOk 0 ∧ K []) (fun b => (if inB (none : (Option (Int × Int))) b = true then Q (none : (Option (Int × (List (Int × Int))))) else (if decide ((6 : Int) < (b.length : Int)) = true then Q (none : (Option (Int × (List (Int × Int))))) else ∃ x3, atI (Txt.split word_21 (":" : Str)) (0 : Int) = some x3 ∧ b_number_in x3 (fun r3 => ∃ x4, r3 = some x4 ∧ ∃ ys, b = ys.map some ∧ Q (some (x4, ys))) E)))))) E) E)) : bindP (bindW (pureW word_21) fun x => bindW (pureW (":" : Str)) fun y => splW x y) (fun parts_22 => bindP (bindW (bindW (bindW (pureW parts_22) lenW) fun x => bindW (pureW (2 : Int)) fun y => neI x y) fun c => ifW c (pureW true) (bindW (bindW (bindW (bindW (bindW (pureW parts_22) fun x => bindW (pureW (0 : Int)) fun y => ixW x y) fun x0 => b_number_in x0) fun x => pureW ((eO eI) x)) fun x0 => bindW (pureW (0 : Int)) fun x1 => bindW (pureW (1000000000000 : Int)) fun x2 => b_is_integer x0 x1 x2) fun c => pureW (!c))) (fun b => ifP b (((bindW (pureW ()) fun _ => pureW (none : (Option (Int × (List (Int × Int)))))) Q E)) (bindP (bindW (bindW (bindW (pureW parts_22) fun x => bindW (pureW (1 : Int)) fun y => ixW x y) fun x => bindW (pureW ("" : Str)) fun y => neW x y) fun c => ifW c (bindW (bindW (bindW (pureW parts_22) fun x => bindW (pureW (1 : Int)) fun y => ixW x y) fun x => bindW (pureW ("," : Str)) fun y => splW x y) fun xs => lcW (fun a_25 => (pureW true)) (fun a_25 => (bindW (pureW a_25) fun x0 => b_slip_in x0)) xs) (bindW (pureW []) szW)) (fun slips_23 => bindP (bindW (bindW (bindW (pureW ()) fun _ => pureW (none : (Option (Int × Int)))) fun x => bindW (pureW slips_23) fun y => inW x y) fun c => ifW c (pureW true) (bindW (bindW (pureW slips_23) lenW) fun x => bindW (pureW (6 : Int)) fun y => gtI x y)) (fun b => ifP b (((bindW (pureW ()) fun _ => pureW (none : (Option (Int × (List (Int × Int)))))) Q E)) (((bindW (bindW (bindW (bindW (bindW (pureW parts_22) fun x => bindW (pureW (0 : Int)) fun y => ixW x y) fun x0 => b_number_in x0) getW) fun x => bindW (bindW (bindW (pureW slips_23) sameW) getAllW) fun y => pureW (x, y)) fun x => pureW (some x)) Q E))) E) E)) E) E := q
def sp_house_in : SpD := fun ds Qd E => ∃ (word_21 : Str) (R : (Option (Int × (List (Int × Int)))) → Prop), ds = [eS word_21] ∧ (∀ r, R r → Qd ((eO (eP eI (eT (eP eI eI)))) r)) ∧ t_house_in word_21 R E
theorem c_house_in (word_21 : Str) (Qd : DK) (E : EK) (R : (Option (Int × (List (Int × Int)))) → Prop) (hr : ∀ r, R r → Qd ((eO (eP eI (eT (eP eI eI)))) r)) (q : t_house_in word_21 R E) : sp_house_in [eS word_21] Qd E := ⟨word_21, R, rfl, hr, q⟩
theorem len_house_in : ∀ ds Q E, sp_house_in ds Q E → ds.length = 1 := by rintro ds Q E ⟨_, _, rfl, _⟩; rfl
def t_words_of (value_26 : D) : W (List Str) := fun Q E => (if (!(isT "str" (eA value_26))) = true then raiseP E "BadText" "index" (eN ()) else ∃ y, value_26 = eS y ∧ (((" " : Str).length == 0) = false ∧ y.length + 2 ≤ sizeLine) ∧ Q (Txt.split y (" " : Str)))
theorem u_words_of  (value_26 : D) (Q : (List Str) → Prop) (E : EK) (q : (if (!(isT "str" (eA value_26))) = true then raiseP E "BadText" "index" (eN ()) else ∃ y, value_26 = eS y ∧ (((" " : Str).length == 0) = false ∧ y.length + 2 ≤ sizeLine) ∧ Q (Txt.split y (" " : Str)))) : bindP (bindW (bindW (pureW value_26) fun x => pureW (isT "str" (eA x))) fun c => pureW (!c)) (fun b => ifP b (bindP (pureW ()) (fun z_27 => raiseP E "BadText" "index" (eN z_27)) E) (((bindW (bindW (pureW value_26) (asW eS)) fun x => bindW (pureW (" " : Str)) fun y => splW x y) Q E))) E := q
def sp_words_of : SpD := fun ds Qd E => ∃ (value_26 : D) (R : (List Str) → Prop), ds = [eA value_26] ∧ (∀ r, R r → Qd ((eL eS) r)) ∧ t_words_of value_26 R E
theorem c_words_of (value_26 : D) (Qd : DK) (E : EK) (R : (List Str) → Prop) (hr : ∀ r, R r → Qd ((eL eS) r)) (q : t_words_of value_26 R E) : sp_words_of [eA value_26] Qd E := ⟨value_26, R, rfl, hr, q⟩
theorem len_words_of : ∀ ds Q E, sp_words_of ds Q E → ds.length = 1 := by rintro ds Q E ⟨_, _, rfl, _⟩; rfl
def t_parse_book (value_28 : D) : W (List (Int × (List (Int × Int)))) := fun Q E => szOk 0 ∧ t_words_of value_28 (fun r => forP (fun x (s : (List (Int × (List (Int × Int))))) N B => t_house_in x.2 (fun r2 => (if r2.isNone = true then raiseP E "BadText" "index" (eI x.1) else (if decide ((6 : Int) ≤ x.1) = true then raiseP E "BadText" "index" (eI x.1) else ∃ x2, r2 = some x2 ∧ s.length < sizeLine ∧ N (s ++ [x2])))) E) (fun (s : (List (Int × (List (Int × Int))))) => forP (fun x (s2 : Unit) N B => x.2.2.length ≤ sizeLine ∧ lcP (fun a Q E => Q true) (fun a Q E => (if decide (a.1 = x.1) = true then Q true else Q (decide ((s.length : Int) ≤ a.1)))) (fun _ => False) x.2.2 [] (fun ys => (if ys.any id = true then raiseP E "BadText" "index" (eI x.1) else N ()))) (fun (s2 : Unit) => Q s) (enI s) ()) (enI r) []) E
theorem u_parse_book (b_words_of : D → W (List Str)) (b_house_in : Str → W (Option (Int × (List (Int × Int))))) (value_28 : D) (Q : (List (Int × (List (Int × Int)))) → Prop) (E : EK) (q : szOk 0 ∧ b_words_of value_28 (fun r => forP (fun x (s : (List (Int × (List (Int × Int))))) N B => b_house_in x.2 (fun r2 => (if r2.isNone = true then raiseP E "BadText" "index" (eI x.1) else (if decide ((6 : Int) ≤ x.1) = true then raiseP E "BadText" "index" (eI x.1) else ∃ x2, r2 = some x2 ∧ s.length < sizeLine ∧ N (s ++ [x2])))) E) (fun (s : (List (Int × (List (Int × Int))))) => forP (fun x (s2 : Unit) N B => x.2.2.length ≤ sizeLine ∧ lcP (fun a Q E => Q true) (fun a Q E => (if decide (a.1 = x.1) = true then Q true else Q (decide ((s.length : Int) ≤ a.1)))) (fun _ => False) x.2.2 [] (fun ys => (if ys.any id = true then raiseP E "BadText" "index" (eI x.1) else N ()))) (fun (s2 : Unit) => Q s) (enI s) ()) (enI r) []) E) : bindP (bindW (pureW []) szW) (fun found_29 => bindP (bindW (bindW (pureW value_28) fun x0 => b_words_of x0) fun xs => pureW (enI xs)) (fun xs => forP (fun x_36 (s_35 : (List (Int × (List (Int × Int))))) N_37 B_38 => bindP (bindW (pureW x_36.2) fun x0 => b_house_in x0) (fun house_42 => bindP (bindW (bindW (pureW house_42) fun x => pureW x.isNone) fun c => ifW c (pureW true) (bindW (pureW x_36.1) fun x => bindW (pureW (6 : Int)) fun y => geI x y)) (fun b => ifP b (bindP (pureW x_36.1) (fun z_43 => raiseP E "BadText" "index" (eI z_43)) E) (bindP (bindW (pureW house_42) getW) (fun z_44 => appP s_35 (N_37 (s_35 ++ [z_44]))) E)) E) E) (fun (s_35 : (List (Int × (List (Int × Int))))) => bindP (bindW (pureW s_35) fun xs => pureW (enI xs)) (fun xs => forP (fun x_50 (s_49 : Unit) N_51 B_52 => bindP (bindW (bindW (pureW x_50.2.2) fun xs => lcW (fun a_56 => (pureW true)) (fun a_56 => (bindW (bindW (pureW a_56.1) fun x => bindW (pureW x_50.1) fun y => eqI x y) fun c => ifW c (pureW true) (bindW (pureW a_56.1) fun x => bindW (bindW (pureW s_35) lenW) fun y => geI x y))) xs) anyW) (fun b => ifP b (bindP (pureW x_50.1) (fun z_57 => raiseP E "BadText" "index" (eI z_57)) E) (N_51 ())) E) (fun (s_49 : Unit) => ((bindW (pureW s_35) sameW) Q E)) xs ()) E) xs found_29) E) E := q
def sp_parse_book : SpD := fun ds Qd E => ∃ (value_28 : D) (R : (List (Int × (List (Int × Int)))) → Prop), ds = [eA value_28] ∧ (∀ r, R r → Qd ((eT (eP eI (eT (eP eI eI)))) r)) ∧ t_parse_book value_28 R E
theorem c_parse_book (value_28 : D) (Qd : DK) (E : EK) (R : (List (Int × (List (Int × Int)))) → Prop) (hr : ∀ r, R r → Qd ((eT (eP eI (eT (eP eI eI)))) r)) (q : t_parse_book value_28 R E) : sp_parse_book [eA value_28] Qd E := ⟨value_28, R, rfl, hr, q⟩
theorem len_parse_book : ∀ ds Q E, sp_parse_book ds Q E → ds.length = 1 := by rintro ds Q E ⟨_, _, rfl, _⟩; rfl
def t_parse_payments (book_58 : (List (Int × (List (Int × Int))))) (value_59 : D) : W (List Int) := fun Q E => t_words_of value_59 (fun r => t_debts book_58 (fun r2 => szOk 0 ∧ forP (fun x (s : (List Int)) N B => (if decide ((r2.length : Int) ≤ x.1) = true then raiseP E "BadText" "index" (eI x.1) else t_number_in x.2 (fun r3 => ∃ x2, atI r2 x.1 = some x2 ∧ t_is_integer (eO eI r3) (0 : Int) x2 (fun r4 => (if (!r4) = true then raiseP E "BadText" "index" (eI x.1) else t_number_in x.2 (fun r5 => ∃ x3, r5 = some x3 ∧ s.length < sizeLine ∧ N (s ++ [x3])) E)) E) E)) (fun (s : (List Int)) => (if decide ((s.length : Int) < (r2.length : Int)) = true then raiseP E "BadText" "index" (eI (s.length : Int)) else Q s)) (enI r) []) E) E
theorem u_parse_payments (b_words_of : D → W (List Str)) (b_debts : (List (Int × (List (Int × Int)))) → W (List Int)) (b_number_in : Str → W (Option Int)) (b_is_integer : D → Int → Int → W Bool) (book_58 : (List (Int × (List (Int × Int))))) (value_59 : D) (Q : (List Int) → Prop) (E : EK) (q : b_words_of value_59 (fun r => b_debts book_58 (fun r2 => szOk 0 ∧ forP (fun x (s : (List Int)) N B => (if decide ((r2.length : Int) ≤ x.1) = true then raiseP E "BadText" "index" (eI x.1) else b_number_in x.2 (fun r3 => ∃ x2, atI r2 x.1 = some x2 ∧ b_is_integer (eO eI r3) (0 : Int) x2 (fun r4 => (if (!r4) = true then raiseP E "BadText" "index" (eI x.1) else b_number_in x.2 (fun r5 => ∃ x3, r5 = some x3 ∧ s.length < sizeLine ∧ N (s ++ [x3])) E)) E) E)) (fun (s : (List Int)) => (if decide ((s.length : Int) < (r2.length : Int)) = true then raiseP E "BadText" "index" (eI (s.length : Int)) else Q s)) (enI r) []) E) E) : bindP (bindW (pureW value_59) fun x0 => b_words_of x0) (fun words_60 => bindP (bindW (pureW book_58) fun x0 => b_debts x0) (fun limits_61 => bindP (bindW (pureW []) szW) (fun found_62 => bindP (bindW (pureW words_60) fun xs => pureW (enI xs)) (fun xs => forP (fun x_68 (s_67 : (List Int)) N_69 B_70 => bindP (bindW (bindW (pureW x_68.1) fun x => bindW (bindW (pureW limits_61) lenW) fun y => geI x y) fun c => ifW c (pureW true) (bindW (bindW (bindW (bindW (pureW x_68.2) fun x0 => b_number_in x0) fun x => pureW ((eO eI) x)) fun x0 => bindW (pureW (0 : Int)) fun x1 => bindW (bindW (pureW limits_61) fun x => bindW (pureW x_68.1) fun y => ixW x y) fun x2 => b_is_integer x0 x1 x2) fun c => pureW (!c))) (fun b => ifP b (bindP (pureW x_68.1) (fun z_74 => raiseP E "BadText" "index" (eI z_74)) E) (bindP (bindW (bindW (pureW x_68.2) fun x0 => b_number_in x0) getW) (fun z_75 => appP s_67 (N_69 (s_67 ++ [z_75]))) E)) E) (fun (s_67 : (List Int)) => bindP (bindW (bindW (pureW s_67) lenW) fun x => bindW (bindW (pureW limits_61) lenW) fun y => ltI x y) (fun b => ifP b (bindP (bindW (pureW s_67) lenW) (fun z_76 => raiseP E "BadText" "index" (eI z_76)) E) (((bindW (pureW s_67) sameW) Q E))) E) xs found_62) E) E) E) E := q
def sp_parse_payments : SpD := fun ds Qd E => ∃ (book_58 : (List (Int × (List (Int × Int))))) (value_59 : D) (R : (List Int) → Prop), ds = [(eT (eP eI (eT (eP eI eI)))) book_58, eA value_59] ∧ (∀ r, R r → Qd ((eT eI) r)) ∧ t_parse_payments book_58 value_59 R E
theorem c_parse_payments (book_58 : (List (Int × (List (Int × Int))))) (value_59 : D) (Qd : DK) (E : EK) (R : (List Int) → Prop) (hr : ∀ r, R r → Qd ((eT eI) r)) (q : t_parse_payments book_58 value_59 R E) : sp_parse_payments [(eT (eP eI (eT (eP eI eI)))) book_58, eA value_59] Qd E := ⟨book_58, value_59, R, rfl, hr, q⟩
theorem len_parse_payments : ∀ ds Q E, sp_parse_payments ds Q E → ds.length = 2 := by rintro ds Q E ⟨_, _, _, rfl, _⟩; rfl
def t__law_pile (box_77 : Unit) (own_78 : Int) (many_79 : Int) (size_80 : Int) (wide_81 : Int) : W (List (Int × Int)) := fun Q E => szOk 0 ∧ t__law_draw box_77 (size_80 + (1 : Int)) (fun r => CMul r (if decide ((1 : Int) < many_79) = true then 1 else 0 : Int) ∧ in62 (r * (if decide ((1 : Int) < many_79) = true then 1 else 0 : Int)) ∧ forP (fun x (s : (List (Int × Int))) N B => t__law_draw box_77 (many_79 - (1 : Int)) (fun r2 => szOk 2 ∧ t__law_one box_77 [(0 : Int), r2] (fun r3 => 0 < many_79 ∧ t__law_draw box_77 wide_81 (fun r4 => s.length < sizeLine ∧ N (s ++ [((own_78 + (1 : Int) + r3) % many_79, (1 : Int) + r4)])) E) E) E) (fun (s : (List (Int × Int))) => Q s) (rgI 0 (r * (if decide ((1 : Int) < many_79) = true then 1 else 0 : Int)).toNat) []) E
theorem u__law_pile (b__law_draw : Unit → Int → W Int) (box_77 : Unit) (own_78 : Int) (many_79 : Int) (size_80 : Int) (wide_81 : Int) (Q : (List (Int × Int)) → Prop) (E : EK) (q : szOk 0 ∧ b__law_draw box_77 (size_80 + (1 : Int)) (fun r => CMul r (if decide ((1 : Int) < many_79) = true then 1 else 0 : Int) ∧ in62 (r * (if decide ((1 : Int) < many_79) = true then 1 else 0 : Int)) ∧ forP (fun x (s : (List (Int × Int))) N B => b__law_draw box_77 (many_79 - (1 : Int)) (fun r2 => szOk 2 ∧ t__law_one box_77 [(0 : Int), r2] (fun r3 => 0 < many_79 ∧ b__law_draw box_77 wide_81 (fun r4 => s.length < sizeLine ∧ N (s ++ [((own_78 + (1 : Int) + r3) % many_79, (1 : Int) + r4)])) E) E) E) (fun (s : (List (Int × Int))) => Q s) (rgI 0 (r * (if decide ((1 : Int) < many_79) = true then 1 else 0 : Int)).toNat) []) E) : bindP (bindW (pureW []) szW) (fun found_82 => bindP (bindW (bindW (bindW (pureW box_77) fun x0 => bindW (bindW (pureW size_80) fun x => bindW (pureW (1 : Int)) fun y => addI x y) fun x1 => b__law_draw x0 x1) fun x => bindW (bindW (bindW (pureW many_79) fun x => bindW (pureW (1 : Int)) fun y => gtI x y) intB) fun y => mulI x y) rng1W) (fun xs => forP (fun x_88 (s_87 : (List (Int × Int))) N_89 B_90 => bindP (bindW (bindW (bindW (pureW own_78) fun x => bindW (pureW (1 : Int)) fun y => addI x y) fun x => bindW (bindW (pureW box_77) fun x0 => bindW (bindW (bindW (pureW (0 : Int)) fun x => bindW (bindW (bindW (pureW box_77) fun x0 => bindW (bindW (pureW many_79) fun x => bindW (pureW (1 : Int)) fun y => subI x y) fun x1 => b__law_draw x0 x1) fun x => bindW (pureW []) fun xs => pureW (x :: xs)) fun xs => pureW (x :: xs)) szW) fun x1 => t__law_one x0 x1) fun y => addI x y) fun x => bindW (pureW many_79) fun y => modI x y) (fun to_94 => bindP (bindW (pureW to_94) fun x => bindW (bindW (pureW (1 : Int)) fun x => bindW (bindW (pureW box_77) fun x0 => bindW (pureW wide_81) fun x1 => b__law_draw x0 x1) fun y => addI x y) fun y => pureW (x, y)) (fun z_95 => appP s_87 (N_89 (s_87 ++ [z_95]))) E) E) (fun (s_87 : (List (Int × Int))) => ((bindW (pureW s_87) sameW) Q E)) xs found_82) E) E := q
def sp__law_pile : SpD := fun ds Qd E => ∃ (box_77 : Unit) (own_78 : Int) (many_79 : Int) (size_80 : Int) (wide_81 : Int) (R : (List (Int × Int)) → Prop), ds = [eBx box_77, eI own_78, eI many_79, eI size_80, eI wide_81] ∧ (∀ r, R r → Qd ((eT (eP eI eI)) r)) ∧ t__law_pile box_77 own_78 many_79 size_80 wide_81 R E
theorem c__law_pile (box_77 : Unit) (own_78 : Int) (many_79 : Int) (size_80 : Int) (wide_81 : Int) (Qd : DK) (E : EK) (R : (List (Int × Int)) → Prop) (hr : ∀ r, R r → Qd ((eT (eP eI eI)) r)) (q : t__law_pile box_77 own_78 many_79 size_80 wide_81 R E) : sp__law_pile [eBx box_77, eI own_78, eI many_79, eI size_80, eI wide_81] Qd E := ⟨box_77, own_78, many_79, size_80, wide_81, R, rfl, hr, q⟩
theorem len__law_pile : ∀ ds Q E, sp__law_pile ds Q E → ds.length = 5 := by rintro ds Q E ⟨_, _, _, _, _, _, rfl, _⟩; rfl
def t__law_book (box_96 : Unit) (most_97 : Int) (size_98 : Int) (wide_99 : Int) : W (List (Int × (List (Int × Int)))) := fun Q E => t__law_draw box_96 most_97 (fun r => in62 ((1 : Int) + r) ∧ (rgI 0 ((1 : Int) + r).toNat).length ≤ sizeLine ∧ lcP (fun a Q E => Q true) (fun a Q E => t__law_draw box_96 (wide_99 + (1 : Int)) (fun r2 => szOk 3 ∧ t__law_one box_96 [(0 : Int), (0 : Int), r2] Q E) E) (fun _ => False) (rgI 0 ((1 : Int) + r).toNat) [] (fun ys => in62 ((1 : Int) + r) ∧ (rgI 0 ((1 : Int) + r).toNat).length ≤ sizeLine ∧ lcP (fun a2 Q E => Q true) (fun a2 Q E => ∃ x, atI ys a2 = some x ∧ t__law_pile box_96 a2 ((1 : Int) + r) size_98 wide_99 (fun r2 => Q (x, r2)) E) (fun _ => False) (rgI 0 ((1 : Int) + r).toNat) [] Q)) E
theorem u__law_book (b__law_draw : Unit → Int → W Int) (b__law_pile : Unit → Int → Int → Int → Int → W (List (Int × Int))) (box_96 : Unit) (most_97 : Int) (size_98 : Int) (wide_99 : Int) (Q : (List (Int × (List (Int × Int)))) → Prop) (E : EK) (q : b__law_draw box_96 most_97 (fun r => in62 ((1 : Int) + r) ∧ (rgI 0 ((1 : Int) + r).toNat).length ≤ sizeLine ∧ lcP (fun a Q E => Q true) (fun a Q E => b__law_draw box_96 (wide_99 + (1 : Int)) (fun r2 => szOk 3 ∧ t__law_one box_96 [(0 : Int), (0 : Int), r2] Q E) E) (fun _ => False) (rgI 0 ((1 : Int) + r).toNat) [] (fun ys => in62 ((1 : Int) + r) ∧ (rgI 0 ((1 : Int) + r).toNat).length ≤ sizeLine ∧ lcP (fun a2 Q E => Q true) (fun a2 Q E => ∃ x, atI ys a2 = some x ∧ b__law_pile box_96 a2 ((1 : Int) + r) size_98 wide_99 (fun r2 => Q (x, r2)) E) (fun _ => False) (rgI 0 ((1 : Int) + r).toNat) [] Q)) E) : bindP (bindW (pureW (1 : Int)) fun x => bindW (bindW (pureW box_96) fun x0 => bindW (pureW most_97) fun x1 => b__law_draw x0 x1) fun y => addI x y) (fun many_100 => bindP (bindW (bindW (pureW many_100) rng1W) fun xs => lcW (fun a_102 => (pureW true)) (fun a_102 => (bindW (pureW box_96) fun x0 => bindW (bindW (bindW (pureW (0 : Int)) fun x => bindW (bindW (pureW (0 : Int)) fun x => bindW (bindW (bindW (pureW box_96) fun x0 => bindW (bindW (pureW wide_99) fun x => bindW (pureW (1 : Int)) fun y => addI x y) fun x1 => b__law_draw x0 x1) fun x => bindW (pureW []) fun xs => pureW (x :: xs)) fun xs => pureW (x :: xs)) fun xs => pureW (x :: xs)) szW) fun x1 => t__law_one x0 x1)) xs) (fun purses_101 => ((bindW (bindW (bindW (pureW many_100) rng1W) fun xs => lcW (fun a_103 => (pureW true)) (fun a_103 => (bindW (bindW (pureW purses_101) fun x => bindW (pureW a_103) fun y => ixW x y) fun x => bindW (bindW (pureW box_96) fun x0 => bindW (pureW a_103) fun x1 => bindW (pureW many_100) fun x2 => bindW (pureW size_98) fun x3 => bindW (pureW wide_99) fun x4 => b__law_pile x0 x1 x2 x3 x4) fun y => pureW (x, y))) xs) sameW) Q E)) E) E := q
def sp__law_book : SpD := fun ds Qd E => ∃ (box_96 : Unit) (most_97 : Int) (size_98 : Int) (wide_99 : Int) (R : (List (Int × (List (Int × Int)))) → Prop), ds = [eBx box_96, eI most_97, eI size_98, eI wide_99] ∧ (∀ r, R r → Qd ((eT (eP eI (eT (eP eI eI)))) r)) ∧ t__law_book box_96 most_97 size_98 wide_99 R E
theorem c__law_book (box_96 : Unit) (most_97 : Int) (size_98 : Int) (wide_99 : Int) (Qd : DK) (E : EK) (R : (List (Int × (List (Int × Int)))) → Prop) (hr : ∀ r, R r → Qd ((eT (eP eI (eT (eP eI eI)))) r)) (q : t__law_book box_96 most_97 size_98 wide_99 R E) : sp__law_book [eBx box_96, eI most_97, eI size_98, eI wide_99] Qd E := ⟨box_96, most_97, size_98, wide_99, R, rfl, hr, q⟩
theorem len__law_book : ∀ ds Q E, sp__law_book ds Q E → ds.length = 4 := by rintro ds Q E ⟨_, _, _, _, _, rfl, _⟩; rfl
def t__law_debts (book_here_104 : (List (Int × (List (Int × Int))))) : W (List Int) := fun Q E => book_here_104.length ≤ sizeLine ∧ lcP (fun a Q E => Q true) (fun a Q E => a.2.length ≤ sizeLine ∧ lcP (fun a2 Q E => Q true) (fun a2 Q E => Q a2.2) (fun _ => False) a.2 [] (fun ys => Q ys.sum)) (fun _ => False) book_here_104 [] Q
theorem u__law_debts  (book_here_104 : (List (Int × (List (Int × Int))))) (Q : (List Int) → Prop) (E : EK) (q : book_here_104.length ≤ sizeLine ∧ lcP (fun a Q E => Q true) (fun a Q E => a.2.length ≤ sizeLine ∧ lcP (fun a2 Q E => Q true) (fun a2 Q E => Q a2.2) (fun _ => False) a.2 [] (fun ys => Q ys.sum)) (fun _ => False) book_here_104 [] Q) : ((bindW (pureW book_here_104) fun xs => lcW (fun a_105 => (pureW true)) (fun a_105 => (bindW (bindW (pureW a_105.2) fun xs => lcW (fun a_106 => (pureW true)) (fun a_106 => (pureW a_106.2)) xs) sumW)) xs) Q E) := q
def sp__law_debts : SpD := fun ds Qd E => ∃ (book_here_104 : (List (Int × (List (Int × Int))))) (R : (List Int) → Prop), ds = [(eT (eP eI (eT (eP eI eI)))) book_here_104] ∧ (∀ r, R r → Qd ((eL eI) r)) ∧ t__law_debts book_here_104 R E
theorem c__law_debts (book_here_104 : (List (Int × (List (Int × Int))))) (Qd : DK) (E : EK) (R : (List Int) → Prop) (hr : ∀ r, R r → Qd ((eL eI) r)) (q : t__law_debts book_here_104 R E) : sp__law_debts [(eT (eP eI (eT (eP eI eI)))) book_here_104] Qd E := ⟨book_here_104, R, rfl, hr, q⟩
theorem len__law_debts : ∀ ds Q E, sp__law_debts ds Q E → ds.length = 1 := by rintro ds Q E ⟨_, _, rfl, _⟩; rfl
def t__law_payments (box_107 : Unit) (book_here_108 : (List (Int × (List (Int × Int))))) : W (List Int) := fun Q E => szOk 0 ∧ forP (fun x (s : (List Int)) N B => szOk 1 ∧ in62 (x.2.length : Int) ∧ (rgI 0 (x.2.length : Int).toNat).length ≤ sizeLine ∧ lcP (fun a Q E => Q true) (fun a Q E => (cutT x.2 none (some (a + (1 : Int)))).length ≤ sizeLine ∧ lcP (fun a2 Q E => Q true) (fun a2 Q E => Q a2.2) (fun _ => False) (cutT x.2 none (some (a + (1 : Int)))) [] (fun ys => Q ys.sum)) (fun _ => False) (rgI 0 (x.2.length : Int).toNat) [] (fun ys => szOk ([(0 : Int)].length + ys.length) ∧ t__law_one box_107 ([(0 : Int)] ++ ys) (fun r => t__law_one box_107 ([(0 : Int)] ++ ys) (fun r2 => t__law_one box_107 ([(0 : Int)] ++ ys) (fun r3 => ∃ x2, atI ([(0 : Int)] ++ ys) (-(1 : Int)) = some x2 ∧ t__law_draw box_107 (x2 + (1 : Int)) (fun r4 => szOk 4 ∧ t__law_one box_107 [r, r2 + (1 : Int), r3 - (1 : Int), r4] (fun r5 => ∃ x3, atI ([(0 : Int)] ++ ys) (-(1 : Int)) = some x3 ∧ s.length < sizeLine ∧ N (s ++ [min (max (0 : Int) r5) x3])) E) E) E) E) E)) (fun (s : (List Int)) => Q s) book_here_108 []
theorem u__law_payments (b__law_draw : Unit → Int → W Int) (box_107 : Unit) (book_here_108 : (List (Int × (List (Int × Int))))) (Q : (List Int) → Prop) (E : EK) (q : szOk 0 ∧ forP (fun x (s : (List Int)) N B => szOk 1 ∧ in62 (x.2.length : Int) ∧ (rgI 0 (x.2.length : Int).toNat).length ≤ sizeLine ∧ lcP (fun a Q E => Q true) (fun a Q E => (cutT x.2 none (some (a + (1 : Int)))).length ≤ sizeLine ∧ lcP (fun a2 Q E => Q true) (fun a2 Q E => Q a2.2) (fun _ => False) (cutT x.2 none (some (a + (1 : Int)))) [] (fun ys => Q ys.sum)) (fun _ => False) (rgI 0 (x.2.length : Int).toNat) [] (fun ys => szOk ([(0 : Int)].length + ys.length) ∧ t__law_one box_107 ([(0 : Int)] ++ ys) (fun r => t__law_one box_107 ([(0 : Int)] ++ ys) (fun r2 => t__law_one box_107 ([(0 : Int)] ++ ys) (fun r3 => ∃ x2, atI ([(0 : Int)] ++ ys) (-(1 : Int)) = some x2 ∧ b__law_draw box_107 (x2 + (1 : Int)) (fun r4 => szOk 4 ∧ t__law_one box_107 [r, r2 + (1 : Int), r3 - (1 : Int), r4] (fun r5 => ∃ x3, atI ([(0 : Int)] ++ ys) (-(1 : Int)) = some x3 ∧ s.length < sizeLine ∧ N (s ++ [min (max (0 : Int) r5) x3])) E) E) E) E) E)) (fun (s : (List Int)) => Q s) book_here_108 []) : bindP (bindW (pureW []) szW) (fun found_109 => bindP (pureW book_here_108) (fun xs => forP (fun x_118 (s_117 : (List Int)) N_119 B_120 => bindP (bindW (bindW (bindW (pureW (0 : Int)) fun x => bindW (pureW []) fun xs => pureW (x :: xs)) szW) fun x => bindW (bindW (bindW (bindW (pureW x_118.2) lenW) rng1W) fun xs => lcW (fun a_125 => (pureW true)) (fun a_125 => (bindW (bindW (bindW (pureW x_118.2) fun xs => bindW (pureW none) fun l => bindW (bindW (bindW (pureW a_125) fun x => bindW (pureW (1 : Int)) fun y => addI x y) fun i => pureW (some i)) fun h => pureW (cutT xs l h)) fun xs => lcW (fun a_126 => (pureW true)) (fun a_126 => (pureW a_126.2)) xs) sumW)) xs) fun y => catW x y) (fun ends_124 => bindP (bindW (bindW (bindW (pureW box_107) fun x0 => bindW (pureW ends_124) fun x1 => t__law_one x0 x1) fun x => bindW (bindW (bindW (bindW (pureW box_107) fun x0 => bindW (pureW ends_124) fun x1 => t__law_one x0 x1) fun x => bindW (pureW (1 : Int)) fun y => addI x y) fun x => bindW (bindW (bindW (bindW (pureW box_107) fun x0 => bindW (pureW ends_124) fun x1 => t__law_one x0 x1) fun x => bindW (pureW (1 : Int)) fun y => subI x y) fun x => bindW (bindW (bindW (pureW box_107) fun x0 => bindW (bindW (bindW (pureW ends_124) fun x => bindW (bindW (pureW (1 : Int)) fun i => pureW (-i)) fun y => ixW x y) fun x => bindW (pureW (1 : Int)) fun y => addI x y) fun x1 => b__law_draw x0 x1) fun x => bindW (pureW []) fun xs => pureW (x :: xs)) fun xs => pureW (x :: xs)) fun xs => pureW (x :: xs)) fun xs => pureW (x :: xs)) szW) (fun some_127 => bindP (bindW (bindW (pureW (0 : Int)) fun x => bindW (bindW (pureW box_107) fun x0 => bindW (pureW some_127) fun x1 => t__law_one x0 x1) fun y => max2 x y) fun x => bindW (bindW (pureW ends_124) fun x => bindW (bindW (pureW (1 : Int)) fun i => pureW (-i)) fun y => ixW x y) fun y => min2 x y) (fun z_128 => appP s_117 (N_119 (s_117 ++ [z_128]))) E) E) E) (fun (s_117 : (List Int)) => ((bindW (pureW s_117) sameW) Q E)) xs found_109) E) E := q
def sp__law_payments : SpD := fun ds Qd E => ∃ (box_107 : Unit) (book_here_108 : (List (Int × (List (Int × Int))))) (R : (List Int) → Prop), ds = [eBx box_107, (eT (eP eI (eT (eP eI eI)))) book_here_108] ∧ (∀ r, R r → Qd ((eT eI) r)) ∧ t__law_payments box_107 book_here_108 R E
theorem c__law_payments (box_107 : Unit) (book_here_108 : (List (Int × (List (Int × Int))))) (Qd : DK) (E : EK) (R : (List Int) → Prop) (hr : ∀ r, R r → Qd ((eT eI) r)) (q : t__law_payments box_107 book_here_108 R E) : sp__law_payments [eBx box_107, (eT (eP eI (eT (eP eI eI)))) book_here_108] Qd E := ⟨box_107, book_here_108, R, rfl, hr, q⟩
theorem len__law_payments : ∀ ds Q E, sp__law_payments ds Q E → ds.length = 2 := by rintro ds Q E ⟨_, _, _, rfl, _⟩; rfl
def t__law_told (book_here_129 : D) (value_130 : D) : W D := fun Q E => (if isNon (eA book_here_129) = true then t_parse_book value_130 (fun r => Q (eT (eP eI (eT (eP eI eI))) r)) (fun x => x.cls ∈ xcs ∧ (if (!(or (isx x.cls "BadBook") (or (isx x.cls "NoAmount") (or (isx x.cls "NoHouse") (or (isx x.cls "NoIndex") false))))) = true then (if isx x.cls "BadText" = true then ∃ v, x.fs.lookup ("index" : Str) = some v ∧ szOk 1 ∧ Q (eL eA [v]) else szOk 1 ∧ Q (eL eS [("other" : Str)])) else szOk 1 ∧ Q (eL eS [("other" : Str)]))) else ∃ y, book_here_129 = (eT (eP eI (eT (eP eI eI)))) y ∧ t_parse_payments y value_130 (fun r => Q (eT eI r)) (fun x => x.cls ∈ xcs ∧ (if (!(or (isx x.cls "BadBook") (or (isx x.cls "NoAmount") (or (isx x.cls "NoHouse") (or (isx x.cls "NoIndex") false))))) = true then (if isx x.cls "BadText" = true then ∃ v, x.fs.lookup ("index" : Str) = some v ∧ szOk 1 ∧ Q (eL eA [v]) else szOk 1 ∧ Q (eL eS [("other" : Str)])) else szOk 1 ∧ Q (eL eS [("other" : Str)]))))
theorem u__law_told (b_parse_book : D → W (List (Int × (List (Int × Int))))) (b_parse_payments : (List (Int × (List (Int × Int)))) → D → W (List Int)) (book_here_129 : D) (value_130 : D) (Q : D → Prop) (E : EK) (q : (if isNon (eA book_here_129) = true then b_parse_book value_130 (fun r => Q (eT (eP eI (eT (eP eI eI))) r)) (fun x => x.cls ∈ xcs ∧ (if (!(or (isx x.cls "BadBook") (or (isx x.cls "NoAmount") (or (isx x.cls "NoHouse") (or (isx x.cls "NoIndex") false))))) = true then (if isx x.cls "BadText" = true then ∃ v, x.fs.lookup ("index" : Str) = some v ∧ szOk 1 ∧ Q (eL eA [v]) else szOk 1 ∧ Q (eL eS [("other" : Str)])) else szOk 1 ∧ Q (eL eS [("other" : Str)]))) else ∃ y, book_here_129 = (eT (eP eI (eT (eP eI eI)))) y ∧ b_parse_payments y value_130 (fun r => Q (eT eI r)) (fun x => x.cls ∈ xcs ∧ (if (!(or (isx x.cls "BadBook") (or (isx x.cls "NoAmount") (or (isx x.cls "NoHouse") (or (isx x.cls "NoIndex") false))))) = true then (if isx x.cls "BadText" = true then ∃ v, x.fs.lookup ("index" : Str) = some v ∧ szOk 1 ∧ Q (eL eA [v]) else szOk 1 ∧ Q (eL eS [("other" : Str)])) else szOk 1 ∧ Q (eL eS [("other" : Str)]))))) : bindP (pureW D.non) (fun found_131 => joinP (fun (K_136 : D → Prop) => tryP (noX (bindW (pureW book_here_129) fun x => pureW (isNon (eA x))) fun c => ifW c (bindW (noX (pureW value_130) fun x0 => b_parse_book x0) fun y => pureW ((eT (eP eI (eT (eP eI eI)))) y)) (bindW (noX (bindW (pureW book_here_129) (asW (eT (eP eI (eT (eP eI eI)))))) fun x0 => noX (pureW value_130) fun x1 => b_parse_payments x0 x1) fun y => pureW ((eT eI) y))) xcs (fun found_132 => K_136 found_132) (fun xerr => bindP (bindW (pureW true) fun c => ifW c (bindW (pureW (or (isx xerr.cls "BadBook") (or (isx xerr.cls "NoAmount") (or (isx xerr.cls "NoHouse") (or (isx xerr.cls "NoIndex") false))))) fun c => pureW (!c)) (pureW false)) (fun alone_138 => bindP (bindW (bindW (pureW alone_138) fun c => ifW c (pureW (isx xerr.cls "BadText")) (pureW false)) fun c => ifW c (bindW (bindW (bindW (fldW xerr "index") fun x => bindW (pureW []) fun xs => pureW (x :: xs)) szW) fun x => pureW ((eL eA) x)) (bindW (bindW (bindW (pureW ("other" : Str)) fun x => bindW (pureW []) fun xs => pureW (x :: xs)) szW) fun x => pureW ((eL eS) x))) (fun found_139 => K_136 found_139) (fun _ => False)) (fun _ => False))) (fun (s_135 : D) => ((pureW s_135) Q E))) E := q
def sp__law_told : SpD := fun ds Qd E => ∃ (book_here_129 : D) (value_130 : D) (R : D → Prop), ds = [eA book_here_129, eA value_130] ∧ (∀ r, R r → Qd (eA r)) ∧ t__law_told book_here_129 value_130 R E
theorem c__law_told (book_here_129 : D) (value_130 : D) (Qd : DK) (E : EK) (R : D → Prop) (hr : ∀ r, R r → Qd (eA r)) (q : t__law_told book_here_129 value_130 R E) : sp__law_told [eA book_here_129, eA value_130] Qd E := ⟨book_here_129, value_130, R, rfl, hr, q⟩
theorem len__law_told : ∀ ds Q E, sp__law_told ds Q E → ds.length = 2 := by rintro ds Q E ⟨_, _, _, rfl, _⟩; rfl
def t__law_number (text_140 : Str) (low_141 : Int) (high_142 : Int) : W (Option Int) := fun Q E => (if eqB text_140 ("" : Str) = true then Q (none : (Option Int)) else szOk text_140.length ∧ (if decide ((13 : Int) < (text_140.length : Int)) = true then Q (none : (Option Int)) else (sgns text_140).length ≤ sizeLine ∧ lcP (fun a Q E => niSW a ("0123456789" : Str) Q E) (fun a Q E => Q a) (fun _ => False) (sgns text_140) [] (fun ys => szOk 0 ∧ (if (!(eqB ys [])) = true then Q (none : (Option Int)) else forP (fun x (s : Int) N B => CMul s (10 : Int) ∧ indexSW ("0123456789" : Str) x (fun r => N (s * (10 : Int) + r)) E) (fun (s : Int) => s.natAbs.log2 < 1920 ∧ (if eqB (strI s) text_140 = true then (if decide (low_141 ≤ s) = true then (if decide (s ≤ high_142) = true then Q (some s) else Q (none : (Option Int))) else Q (none : (Option Int))) else Q (none : (Option Int)))) (sgns text_140) (0 : Int)))))
theorem u__law_number  (text_140 : Str) (low_141 : Int) (high_142 : Int) (Q : (Option Int) → Prop) (E : EK) (q : (if eqB text_140 ("" : Str) = true then Q (none : (Option Int)) else szOk text_140.length ∧ (if decide ((13 : Int) < (text_140.length : Int)) = true then Q (none : (Option Int)) else (sgns text_140).length ≤ sizeLine ∧ lcP (fun a Q E => niSW a ("0123456789" : Str) Q E) (fun a Q E => Q a) (fun _ => False) (sgns text_140) [] (fun ys => szOk 0 ∧ (if (!(eqB ys [])) = true then Q (none : (Option Int)) else forP (fun x (s : Int) N B => CMul s (10 : Int) ∧ indexSW ("0123456789" : Str) x (fun r => N (s * (10 : Int) + r)) E) (fun (s : Int) => s.natAbs.log2 < 1920 ∧ (if eqB (strI s) text_140 = true then (if decide (low_141 ≤ s) = true then (if decide (s ≤ high_142) = true then Q (some s) else Q (none : (Option Int))) else Q (none : (Option Int))) else Q (none : (Option Int)))) (sgns text_140) (0 : Int)))))) : bindP (bindW (bindW (pureW text_140) fun x => bindW (pureW ("" : Str)) fun y => eqW x y) fun c => ifW c (pureW true) (bindW (bindW (bindW (pureW text_140) lenS) fun x => bindW (pureW (13 : Int)) fun y => gtI x y) fun c => ifW c (pureW true) (bindW (bindW (bindW (pureW text_140) fun z => pureW (sgns z)) fun xs => lcW (fun a_143 => (bindW (pureW a_143) fun x => bindW (pureW ("0123456789" : Str)) fun y => niSW x y)) (fun a_143 => (pureW a_143)) xs) fun x => bindW (bindW (pureW []) szW) fun y => neW x y))) (fun b => ifP b (((bindW (pureW ()) fun _ => pureW (none : (Option Int))) Q E)) (bindP (pureW (0 : Int)) (fun number_here_144 => bindP (bindW (pureW text_140) fun z => pureW (sgns z)) (fun xs => forP (fun x_149 (s_148 : Int) N_150 B_151 => bindP (bindW (bindW (pureW s_148) fun x => bindW (pureW (10 : Int)) fun y => mulI x y) fun x => bindW (bindW (pureW ("0123456789" : Str)) fun x => bindW (pureW x_149) fun y => indexSW x y) fun y => addI x y) (fun number_here_155 => N_150 number_here_155) E) (fun (s_148 : Int) => ((bindW (bindW (bindW (bindW (pureW s_148) strW) fun x => bindW (pureW text_140) fun y => eqW x y) fun c => ifW c (bindW (pureW low_141) fun x => bindW (pureW s_148) fun y => bindW (leI x y) fun c => ifW c (bindW (pureW high_142) fun z => leI y z) (pureW false)) (pureW false)) fun c => ifW c (bindW (pureW s_148) fun x => pureW (some x)) (bindW (pureW ()) fun _ => pureW (none : (Option Int)))) Q E)) xs number_here_144) E) E)) E := q
def sp__law_number : SpD := fun ds Qd E => ∃ (text_140 : Str) (low_141 : Int) (high_142 : Int) (R : (Option Int) → Prop), ds = [eS text_140, eI low_141, eI high_142] ∧ (∀ r, R r → Qd ((eO eI) r)) ∧ t__law_number text_140 low_141 high_142 R E
theorem c__law_number (text_140 : Str) (low_141 : Int) (high_142 : Int) (Qd : DK) (E : EK) (R : (Option Int) → Prop) (hr : ∀ r, R r → Qd ((eO eI) r)) (q : t__law_number text_140 low_141 high_142 R E) : sp__law_number [eS text_140, eI low_141, eI high_142] Qd E := ⟨text_140, low_141, high_142, R, rfl, hr, q⟩
theorem len__law_number : ∀ ds Q E, sp__law_number ds Q E → ds.length = 3 := by rintro ds Q E ⟨_, _, _, _, rfl, _⟩; rfl
def t__law_house_of (text_156 : Str) : W (Option (Int × (List ((Option Int) × (Option Int))))) := fun Q E => countSW text_156 (":" : Str) (fun r => (if (!(decide (r = (1 : Int)))) = true then Q (none : (Option (Int × (List ((Option Int) × (Option Int)))))) else (((":" : Str).length == 0) = false ∧ text_156.length + 2 ≤ sizeLine) ∧ unq2 (Txt.split text_156 (":" : Str)) (fun r2 => szOk 0 ∧ (joinP (fun K => if (!(eqB r2.2 ("" : Str))) = true then ((("," : Str).length == 0) = false ∧ r2.2.length + 2 ≤ sizeLine) ∧ K (Txt.split r2.2 ("," : Str)) else szOk 0 ∧ K []) (fun b => forP (fun x (s : (List ((Option Int) × (Option Int)))) N B => countSW x ("-" : Str) (fun r3 => (if (!(decide (r3 = (1 : Int)))) = true then Q (none : (Option (Int × (List ((Option Int) × (Option Int)))))) else ((("-" : Str).length == 0) = false ∧ x.length + 2 ≤ sizeLine) ∧ unq2 (Txt.split x ("-" : Str)) (fun r4 => t__law_number r4.1 (0 : Int) (5 : Int) (fun r5 => CPow (10 : Int) (9 : Int) ∧ t__law_number r4.2 (1 : Int) ((10 : Int) ^ (9 : Int).toNat) (fun r6 => s.length < sizeLine ∧ N (s ++ [(r5, r6)])) E) E) E)) E) (fun (s : (List ((Option Int) × (Option Int)))) => (if decide ((6 : Int) < (s.length : Int)) = true then Q (none : (Option (Int × (List ((Option Int) × (Option Int)))))) else s.length ≤ sizeLine ∧ lcP (fun a Q E => Q (inB (none : (Option Int)) [a.1, a.2])) (fun a Q E => Q a) (fun _ => False) s [] (fun ys => szOk 0 ∧ (if (!(eqB ys [])) = true then Q (none : (Option (Int × (List ((Option Int) × (Option Int)))))) else CPow (10 : Int) (12 : Int) ∧ t__law_number r2.1 (0 : Int) ((10 : Int) ^ (12 : Int).toNat) (fun r3 => (if r3.isNone = true then Q (none : (Option (Int × (List ((Option Int) × (Option Int)))))) else ∃ n, (PySem.intText? r2.1 = some n ∧ r2.1.length ≤ 640) ∧ Q (some (n, s)))) E)))) b []))) E)) E
theorem u__law_house_of (b__law_number : Str → Int → Int → W (Option Int)) (text_156 : Str) (Q : (Option (Int × (List ((Option Int) × (Option Int))))) → Prop) (E : EK) (q : countSW text_156 (":" : Str) (fun r => (if (!(decide (r = (1 : Int)))) = true then Q (none : (Option (Int × (List ((Option Int) × (Option Int)))))) else (((":" : Str).length == 0) = false ∧ text_156.length + 2 ≤ sizeLine) ∧ unq2 (Txt.split text_156 (":" : Str)) (fun r2 => szOk 0 ∧ (joinP (fun K => if (!(eqB r2.2 ("" : Str))) = true then ((("," : Str).length == 0) = false ∧ r2.2.length + 2 ≤ sizeLine) ∧ K (Txt.split r2.2 ("," : Str)) else szOk 0 ∧ K []) (fun b => forP (fun x (s : (List ((Option Int) × (Option Int)))) N B => countSW x ("-" : Str) (fun r3 => (if (!(decide (r3 = (1 : Int)))) = true then Q (none : (Option (Int × (List ((Option Int) × (Option Int)))))) else ((("-" : Str).length == 0) = false ∧ x.length + 2 ≤ sizeLine) ∧ unq2 (Txt.split x ("-" : Str)) (fun r4 => b__law_number r4.1 (0 : Int) (5 : Int) (fun r5 => CPow (10 : Int) (9 : Int) ∧ b__law_number r4.2 (1 : Int) ((10 : Int) ^ (9 : Int).toNat) (fun r6 => s.length < sizeLine ∧ N (s ++ [(r5, r6)])) E) E) E)) E) (fun (s : (List ((Option Int) × (Option Int)))) => (if decide ((6 : Int) < (s.length : Int)) = true then Q (none : (Option (Int × (List ((Option Int) × (Option Int)))))) else s.length ≤ sizeLine ∧ lcP (fun a Q E => Q (inB (none : (Option Int)) [a.1, a.2])) (fun a Q E => Q a) (fun _ => False) s [] (fun ys => szOk 0 ∧ (if (!(eqB ys [])) = true then Q (none : (Option (Int × (List ((Option Int) × (Option Int)))))) else CPow (10 : Int) (12 : Int) ∧ b__law_number r2.1 (0 : Int) ((10 : Int) ^ (12 : Int).toNat) (fun r3 => (if r3.isNone = true then Q (none : (Option (Int × (List ((Option Int) × (Option Int)))))) else ∃ n, (PySem.intText? r2.1 = some n ∧ r2.1.length ≤ 640) ∧ Q (some (n, s)))) E)))) b []))) E)) E) : bindP (bindW (bindW (pureW text_156) fun x => bindW (pureW (":" : Str)) fun y => countSW x y) fun x => bindW (pureW (1 : Int)) fun y => neI x y) (fun b => ifP b (((bindW (pureW ()) fun _ => pureW (none : (Option (Int × (List ((Option Int) × (Option Int))))))) Q E)) (bindP (bindW (bindW (pureW text_156) fun x => bindW (pureW (":" : Str)) fun y => splW x y) unq2) (fun z_157 => bindP (bindW (pureW []) szW) (fun slips_158 => bindP (bindW (bindW (pureW z_157.2) fun x => bindW (pureW ("" : Str)) fun y => neW x y) fun c => ifW c (bindW (pureW z_157.2) fun x => bindW (pureW ("," : Str)) fun y => splW x y) (bindW (pureW []) szW)) (fun parts_159 => bindP (pureW parts_159) (fun xs => forP (fun x_165 (s_164 : (List ((Option Int) × (Option Int)))) N_166 B_167 => bindP (bindW (bindW (pureW x_165) fun x => bindW (pureW ("-" : Str)) fun y => countSW x y) fun x => bindW (pureW (1 : Int)) fun y => neI x y) (fun b => ifP b (((bindW (pureW ()) fun _ => pureW (none : (Option (Int × (List ((Option Int) × (Option Int))))))) Q E)) (bindP (bindW (bindW (pureW x_165) fun x => bindW (pureW ("-" : Str)) fun y => splW x y) unq2) (fun z_171 => bindP (bindW (bindW (pureW z_171.1) fun x0 => bindW (pureW (0 : Int)) fun x1 => bindW (pureW (5 : Int)) fun x2 => b__law_number x0 x1 x2) fun x => bindW (bindW (pureW z_171.2) fun x0 => bindW (pureW (1 : Int)) fun x1 => bindW (bindW (pureW (10 : Int)) fun x => bindW (pureW (9 : Int)) fun y => powI x y) fun x2 => b__law_number x0 x1 x2) fun y => pureW (x, y)) (fun z_172 => appP s_164 (N_166 (s_164 ++ [z_172]))) E) E)) E) (fun (s_164 : (List ((Option Int) × (Option Int)))) => bindP (bindW (bindW (bindW (pureW s_164) lenW) fun x => bindW (pureW (6 : Int)) fun y => gtI x y) fun c => ifW c (pureW true) (bindW (bindW (bindW (pureW s_164) fun xs => lcW (fun a_173 => (bindW (bindW (pureW ()) fun _ => pureW (none : (Option Int))) fun x => bindW (bindW (pureW a_173) fun p => pureW [p.1, p.2]) fun y => inW x y)) (fun a_173 => (pureW a_173)) xs) fun x => bindW (bindW (pureW []) szW) fun y => neW x y) fun c => ifW c (pureW true) (bindW (bindW (pureW z_157.1) fun x0 => bindW (pureW (0 : Int)) fun x1 => bindW (bindW (pureW (10 : Int)) fun x => bindW (pureW (12 : Int)) fun y => powI x y) fun x2 => b__law_number x0 x1 x2) fun x => pureW x.isNone))) (fun b => ifP b (((bindW (pureW ()) fun _ => pureW (none : (Option (Int × (List ((Option Int) × (Option Int))))))) Q E)) (((bindW (bindW (bindW (pureW z_157.1) intSW) fun x => bindW (bindW (pureW s_164) sameW) fun y => pureW (x, y)) fun x => pureW (some x)) Q E))) E) xs slips_158) E) E) E) E)) E := q
def sp__law_house_of : SpD := fun ds Qd E => ∃ (text_156 : Str) (R : (Option (Int × (List ((Option Int) × (Option Int))))) → Prop), ds = [eS text_156] ∧ (∀ r, R r → Qd ((eO (eP eI (eT (eP (eO eI) (eO eI))))) r)) ∧ t__law_house_of text_156 R E
theorem c__law_house_of (text_156 : Str) (Qd : DK) (E : EK) (R : (Option (Int × (List ((Option Int) × (Option Int))))) → Prop) (hr : ∀ r, R r → Qd ((eO (eP eI (eT (eP (eO eI) (eO eI))))) r)) (q : t__law_house_of text_156 R E) : sp__law_house_of [eS text_156] Qd E := ⟨text_156, R, rfl, hr, q⟩
theorem len__law_house_of : ∀ ds Q E, sp__law_house_of ds Q E → ds.length = 1 := by rintro ds Q E ⟨_, _, rfl, _⟩; rfl
def t__law_due_book (value_174 : D) : W D := fun Q E => (if (!(isT "str" (eA value_174))) = true then szOk 1 ∧ Q (eL eN [()]) else ∃ y, value_174 = eS y ∧ (((" " : Str).length == 0) = false ∧ y.length + 2 ≤ sizeLine) ∧ (Txt.split y (" " : Str)).length ≤ sizeLine ∧ lcP (fun a Q E => Q true) (fun a Q E => t__law_house_of a Q E) (fun _ => False) (Txt.split y (" " : Str)) [] (fun ys => forP (fun x (s : Unit) N B => (if x.2.isNone = true then szOk 1 ∧ Q (eL eI [x.1]) else (if decide (x.1 = (6 : Int)) = true then szOk 1 ∧ Q (eL eI [x.1]) else N ()))) (fun (s : Unit) => ∃ ys2, ys = ys2.map some ∧ forP (fun x (s2 : Unit) N B => x.2.2.length ≤ sizeLine ∧ lcP (fun a2 Q E => eqA (eO eI a2.1) (eI x.1) (fun r => (if r = true then Q true else ∃ x2, a2.1 = some x2 ∧ Q (decide ((ys.length : Int) ≤ x2)))) E) (fun a2 Q E => Q a2.1) (fun _ => False) x.2.2 [] (fun ys3 => szOk 0 ∧ (if (!(eqB ys3 [])) = true then szOk 1 ∧ Q (eL eI [x.1]) else N ()))) (fun (s2 : Unit) => Q (eT (eO (eP eI (eT (eP (eO eI) (eO eI))))) ys)) (enI ys2) ()) (enI ys) ()))
theorem u__law_due_book (b__law_house_of : Str → W (Option (Int × (List ((Option Int) × (Option Int)))))) (value_174 : D) (Q : D → Prop) (E : EK) (q : (if (!(isT "str" (eA value_174))) = true then szOk 1 ∧ Q (eL eN [()]) else ∃ y, value_174 = eS y ∧ (((" " : Str).length == 0) = false ∧ y.length + 2 ≤ sizeLine) ∧ (Txt.split y (" " : Str)).length ≤ sizeLine ∧ lcP (fun a Q E => Q true) (fun a Q E => b__law_house_of a Q E) (fun _ => False) (Txt.split y (" " : Str)) [] (fun ys => forP (fun x (s : Unit) N B => (if x.2.isNone = true then szOk 1 ∧ Q (eL eI [x.1]) else (if decide (x.1 = (6 : Int)) = true then szOk 1 ∧ Q (eL eI [x.1]) else N ()))) (fun (s : Unit) => ∃ ys2, ys = ys2.map some ∧ forP (fun x (s2 : Unit) N B => x.2.2.length ≤ sizeLine ∧ lcP (fun a2 Q E => eqA (eO eI a2.1) (eI x.1) (fun r => (if r = true then Q true else ∃ x2, a2.1 = some x2 ∧ Q (decide ((ys.length : Int) ≤ x2)))) E) (fun a2 Q E => Q a2.1) (fun _ => False) x.2.2 [] (fun ys3 => szOk 0 ∧ (if (!(eqB ys3 [])) = true then szOk 1 ∧ Q (eL eI [x.1]) else N ()))) (fun (s2 : Unit) => Q (eT (eO (eP eI (eT (eP (eO eI) (eO eI))))) ys)) (enI ys2) ()) (enI ys) ()))) : bindP (bindW (bindW (pureW value_174) fun x => pureW (isT "str" (eA x))) fun c => pureW (!c)) (fun b => ifP b (((bindW (bindW (bindW (pureW ()) fun x => bindW (pureW []) fun xs => pureW (x :: xs)) szW) fun x => pureW ((eL eN) x)) Q E)) (bindP (bindW (bindW (bindW (pureW value_174) (asW eS)) fun x => bindW (pureW (" " : Str)) fun y => splW x y) fun xs => lcW (fun a_176 => (pureW true)) (fun a_176 => (bindW (pureW a_176) fun x0 => b__law_house_of x0)) xs) (fun found_175 => bindP (bindW (pureW found_175) fun xs => pureW (enI xs)) (fun xs => forP (fun x_180 (s_179 : Unit) N_181 B_182 => bindP (bindW (bindW (pureW x_180.2) fun x => pureW x.isNone) fun c => ifW c (pureW true) (bindW (pureW x_180.1) fun x => bindW (pureW (6 : Int)) fun y => eqI x y)) (fun b => ifP b (((bindW (bindW (bindW (pureW x_180.1) fun x => bindW (pureW []) fun xs => pureW (x :: xs)) szW) fun x => pureW ((eL eI) x)) Q E)) (N_181 ())) E) (fun (s_179 : Unit) => bindP (bindW (bindW (pureW found_175) getAllW) fun xs => pureW (enI xs)) (fun xs => forP (fun x_190 (s_189 : Unit) N_191 B_192 => bindP (bindW (bindW (pureW x_190.2.2) fun xs => lcW (fun a_196 => (bindW (bindW (bindW (pureW a_196.1) fun x => pureW ((eO eI) x)) fun x => bindW (bindW (pureW x_190.1) fun x => pureW (eI x)) fun y => eqA x y) fun c => ifW c (pureW true) (bindW (bindW (pureW a_196.1) getW) fun x => bindW (bindW (pureW found_175) lenW) fun y => geI x y))) (fun a_196 => (pureW a_196.1)) xs) fun x => bindW (bindW (pureW []) szW) fun y => neW x y) (fun b => ifP b (((bindW (bindW (bindW (pureW x_190.1) fun x => bindW (pureW []) fun xs => pureW (x :: xs)) szW) fun x => pureW ((eL eI) x)) Q E)) (N_191 ())) E) (fun (s_189 : Unit) => ((bindW (bindW (pureW found_175) sameW) fun x => pureW ((eT (eO (eP eI (eT (eP (eO eI) (eO eI)))))) x)) Q E)) xs ()) E) xs ()) E) E)) E := q
def sp__law_due_book : SpD := fun ds Qd E => ∃ (value_174 : D) (R : D → Prop), ds = [eA value_174] ∧ (∀ r, R r → Qd (eA r)) ∧ t__law_due_book value_174 R E
theorem c__law_due_book (value_174 : D) (Qd : DK) (E : EK) (R : D → Prop) (hr : ∀ r, R r → Qd (eA r)) (q : t__law_due_book value_174 R E) : sp__law_due_book [eA value_174] Qd E := ⟨value_174, R, rfl, hr, q⟩
theorem len__law_due_book : ∀ ds Q E, sp__law_due_book ds Q E → ds.length = 1 := by rintro ds Q E ⟨_, _, rfl, _⟩; rfl
def t__law_due_payments (book_here_197 : (List (Int × (List (Int × Int))))) (value_198 : D) : W D := fun Q E => (if (!(isT "str" (eA value_198))) = true then szOk 1 ∧ Q (eL eN [()]) else t__law_debts book_here_197 (fun r => szOk 0 ∧ ∃ y, value_198 = eS y ∧ (((" " : Str).length == 0) = false ∧ y.length + 2 ≤ sizeLine) ∧ forP (fun x (s : (List Int)) N B => (if decide ((r.length : Int) ≤ x.1) = true then szOk 1 ∧ Q (eL eI [x.1]) else ∃ x2, atI r x.1 = some x2 ∧ t__law_number x.2 (0 : Int) x2 (fun r2 => (if r2.isNone = true then szOk 1 ∧ Q (eL eI [x.1]) else ∃ n, (PySem.intText? x.2 = some n ∧ x.2.length ≤ 640) ∧ s.length < sizeLine ∧ N (s ++ [n]))) E)) (fun (s : (List Int)) => (if decide ((s.length : Int) = (r.length : Int)) = true then Q (eT eI s) else szOk 1 ∧ Q (eL eI [(s.length : Int)]))) (enI (Txt.split y (" " : Str))) []) E)
theorem u__law_due_payments (b__law_debts : (List (Int × (List (Int × Int)))) → W (List Int)) (b__law_number : Str → Int → Int → W (Option Int)) (book_here_197 : (List (Int × (List (Int × Int))))) (value_198 : D) (Q : D → Prop) (E : EK) (q : (if (!(isT "str" (eA value_198))) = true then szOk 1 ∧ Q (eL eN [()]) else b__law_debts book_here_197 (fun r => szOk 0 ∧ ∃ y, value_198 = eS y ∧ (((" " : Str).length == 0) = false ∧ y.length + 2 ≤ sizeLine) ∧ forP (fun x (s : (List Int)) N B => (if decide ((r.length : Int) ≤ x.1) = true then szOk 1 ∧ Q (eL eI [x.1]) else ∃ x2, atI r x.1 = some x2 ∧ b__law_number x.2 (0 : Int) x2 (fun r2 => (if r2.isNone = true then szOk 1 ∧ Q (eL eI [x.1]) else ∃ n, (PySem.intText? x.2 = some n ∧ x.2.length ≤ 640) ∧ s.length < sizeLine ∧ N (s ++ [n]))) E)) (fun (s : (List Int)) => (if decide ((s.length : Int) = (r.length : Int)) = true then Q (eT eI s) else szOk 1 ∧ Q (eL eI [(s.length : Int)]))) (enI (Txt.split y (" " : Str))) []) E)) : bindP (bindW (bindW (pureW value_198) fun x => pureW (isT "str" (eA x))) fun c => pureW (!c)) (fun b => ifP b (((bindW (bindW (bindW (pureW ()) fun x => bindW (pureW []) fun xs => pureW (x :: xs)) szW) fun x => pureW ((eL eN) x)) Q E)) (bindP (bindW (pureW book_here_197) fun x0 => b__law_debts x0) (fun owed_199 => bindP (bindW (pureW []) szW) (fun found_200 => bindP (bindW (bindW (bindW (pureW value_198) (asW eS)) fun x => bindW (pureW (" " : Str)) fun y => splW x y) fun xs => pureW (enI xs)) (fun xs => forP (fun x_205 (s_204 : (List Int)) N_206 B_207 => bindP (bindW (bindW (pureW x_205.1) fun x => bindW (bindW (pureW owed_199) lenW) fun y => geI x y) fun c => ifW c (pureW true) (bindW (bindW (pureW x_205.2) fun x0 => bindW (pureW (0 : Int)) fun x1 => bindW (bindW (pureW owed_199) fun x => bindW (pureW x_205.1) fun y => ixW x y) fun x2 => b__law_number x0 x1 x2) fun x => pureW x.isNone)) (fun b => ifP b (((bindW (bindW (bindW (pureW x_205.1) fun x => bindW (pureW []) fun xs => pureW (x :: xs)) szW) fun x => pureW ((eL eI) x)) Q E)) (bindP (bindW (pureW x_205.2) intSW) (fun z_211 => appP s_204 (N_206 (s_204 ++ [z_211]))) E)) E) (fun (s_204 : (List Int)) => ((bindW (bindW (bindW (pureW s_204) lenW) fun x => bindW (bindW (pureW owed_199) lenW) fun y => eqI x y) fun c => ifW c (bindW (bindW (pureW s_204) sameW) fun x => pureW ((eT eI) x)) (bindW (bindW (bindW (bindW (pureW s_204) lenW) fun x => bindW (pureW []) fun xs => pureW (x :: xs)) szW) fun x => pureW ((eL eI) x))) Q E)) xs found_200) E) E) E)) E := q
def sp__law_due_payments : SpD := fun ds Qd E => ∃ (book_here_197 : (List (Int × (List (Int × Int))))) (value_198 : D) (R : D → Prop), ds = [(eT (eP eI (eT (eP eI eI)))) book_here_197, eA value_198] ∧ (∀ r, R r → Qd (eA r)) ∧ t__law_due_payments book_here_197 value_198 R E
theorem c__law_due_payments (book_here_197 : (List (Int × (List (Int × Int))))) (value_198 : D) (Qd : DK) (E : EK) (R : D → Prop) (hr : ∀ r, R r → Qd (eA r)) (q : t__law_due_payments book_here_197 value_198 R E) : sp__law_due_payments [(eT (eP eI (eT (eP eI eI)))) book_here_197, eA value_198] Qd E := ⟨book_here_197, value_198, R, rfl, hr, q⟩
theorem len__law_due_payments : ∀ ds Q E, sp__law_due_payments ds Q E → ds.length = 2 := by rintro ds Q E ⟨_, _, _, rfl, _⟩; rfl
def t__law_changed (box_212 : Unit) (text_213 : Str) : W Str := fun Q E => szOk text_213.length ∧ t__law_draw box_212 ((text_213.length : Int) + (1 : Int)) (fun r => szOk 14 ∧ joinP (fun K => K [("0" : Str), ("1" : Str), ("9" : Str), (" " : Str), ("-" : Str), (":" : Str), ("," : Str), ("a" : Str), ("+" : Str), ("." : Str), ("" : Str), ("00" : Str), ("  " : Str), ("\n" : Str)]) (fun v => cutSW text_213 none (some r) (fun r2 => t__law_one box_212 v (fun r3 => szOk (r2.length + r3.length) ∧ cutSW text_213 (some r) none (fun r4 => szOk ((r2 ++ r3).length + r4.length) ∧ cutSW text_213 none (some r) (fun r5 => cutSW text_213 (some (r + (1 : Int))) none (fun r6 => szOk (r5.length + r6.length) ∧ t__law_one box_212 v (fun r7 => szOk (text_213.length + r7.length) ∧ szOk 3 ∧ (((" " : Str).length == 0) = false ∧ text_213.length + 2 ≤ sizeLine) ∧ t__law_draw box_212 ((Txt.split text_213 (" " : Str)).length : Int) (fun r8 => szOk ((cutT (Txt.split text_213 (" " : Str)) none (some r8)).length + (cutT (Txt.split text_213 (" " : Str)) (some (r8 + (1 : Int))) none).length) ∧ joinP (fun K => K (cutT (Txt.split text_213 (" " : Str)) none (some r8) ++ cutT (Txt.split text_213 (" " : Str)) (some (r8 + (1 : Int))) none)) (fun v2 => (v2.map (·.length)).sum + v2.length * (" " : Str).length ≤ 16777216 ∧ szOk ((Txt.split text_213 (" " : Str)).length + (cutT (Txt.split text_213 (" " : Str)) (some r8) none).length) ∧ joinP (fun K => K (Txt.split text_213 (" " : Str) ++ cutT (Txt.split text_213 (" " : Str)) (some r8) none)) (fun v3 => (v3.map (·.length)).sum + v3.length * (" " : Str).length ≤ 16777216 ∧ ((Txt.split text_213 (" " : Str)).reverse.map (·.length)).sum + (Txt.split text_213 (" " : Str)).reverse.length * (" " : Str).length ≤ 16777216 ∧ szOk 3 ∧ joinP (fun K => K [Txt.join (" " : Str) v2, Txt.join (" " : Str) v3, Txt.join (" " : Str) (Txt.split text_213 (" " : Str)).reverse]) (fun v4 => szOk ([r2 ++ r3 ++ r4, r5 ++ r6, text_213 ++ r7].length + v4.length) ∧ cutSW text_213 none (some r) (fun r9 => t__law_one box_212 v (fun r10 => szOk (r9.length + r10.length) ∧ cutSW text_213 (some (r + (1 : Int))) none (fun r11 => szOk ((r9 ++ r10).length + r11.length) ∧ szOk ((" " : Str).length + text_213.length) ∧ szOk 3 ∧ szOk (([r2 ++ r3 ++ r4, r5 ++ r6, text_213 ++ r7] ++ v4).length + [r9 ++ r10 ++ r11, text_213, (" " : Str) ++ text_213].length) ∧ t__law_one box_212 ([r2 ++ r3 ++ r4, r5 ++ r6, text_213 ++ r7] ++ v4 ++ [r9 ++ r10 ++ r11, text_213, (" " : Str) ++ text_213]) Q E) E) E) E)))) E) E) E) E) E) E) E)) E
theorem u__law_changed (b__law_draw : Unit → Int → W Int) (box_212 : Unit) (text_213 : Str) (Q : Str → Prop) (E : EK) (q : szOk text_213.length ∧ b__law_draw box_212 ((text_213.length : Int) + (1 : Int)) (fun r => szOk 14 ∧ joinP (fun K => K [("0" : Str), ("1" : Str), ("9" : Str), (" " : Str), ("-" : Str), (":" : Str), ("," : Str), ("a" : Str), ("+" : Str), ("." : Str), ("" : Str), ("00" : Str), ("  " : Str), ("\n" : Str)]) (fun v => cutSW text_213 none (some r) (fun r2 => t__law_one box_212 v (fun r3 => szOk (r2.length + r3.length) ∧ cutSW text_213 (some r) none (fun r4 => szOk ((r2 ++ r3).length + r4.length) ∧ cutSW text_213 none (some r) (fun r5 => cutSW text_213 (some (r + (1 : Int))) none (fun r6 => szOk (r5.length + r6.length) ∧ t__law_one box_212 v (fun r7 => szOk (text_213.length + r7.length) ∧ szOk 3 ∧ (((" " : Str).length == 0) = false ∧ text_213.length + 2 ≤ sizeLine) ∧ b__law_draw box_212 ((Txt.split text_213 (" " : Str)).length : Int) (fun r8 => szOk ((cutT (Txt.split text_213 (" " : Str)) none (some r8)).length + (cutT (Txt.split text_213 (" " : Str)) (some (r8 + (1 : Int))) none).length) ∧ joinP (fun K => K (cutT (Txt.split text_213 (" " : Str)) none (some r8) ++ cutT (Txt.split text_213 (" " : Str)) (some (r8 + (1 : Int))) none)) (fun v2 => (v2.map (·.length)).sum + v2.length * (" " : Str).length ≤ 16777216 ∧ szOk ((Txt.split text_213 (" " : Str)).length + (cutT (Txt.split text_213 (" " : Str)) (some r8) none).length) ∧ joinP (fun K => K (Txt.split text_213 (" " : Str) ++ cutT (Txt.split text_213 (" " : Str)) (some r8) none)) (fun v3 => (v3.map (·.length)).sum + v3.length * (" " : Str).length ≤ 16777216 ∧ ((Txt.split text_213 (" " : Str)).reverse.map (·.length)).sum + (Txt.split text_213 (" " : Str)).reverse.length * (" " : Str).length ≤ 16777216 ∧ szOk 3 ∧ joinP (fun K => K [Txt.join (" " : Str) v2, Txt.join (" " : Str) v3, Txt.join (" " : Str) (Txt.split text_213 (" " : Str)).reverse]) (fun v4 => szOk ([r2 ++ r3 ++ r4, r5 ++ r6, text_213 ++ r7].length + v4.length) ∧ cutSW text_213 none (some r) (fun r9 => t__law_one box_212 v (fun r10 => szOk (r9.length + r10.length) ∧ cutSW text_213 (some (r + (1 : Int))) none (fun r11 => szOk ((r9 ++ r10).length + r11.length) ∧ szOk ((" " : Str).length + text_213.length) ∧ szOk 3 ∧ szOk (([r2 ++ r3 ++ r4, r5 ++ r6, text_213 ++ r7] ++ v4).length + [r9 ++ r10 ++ r11, text_213, (" " : Str) ++ text_213].length) ∧ t__law_one box_212 ([r2 ++ r3 ++ r4, r5 ++ r6, text_213 ++ r7] ++ v4 ++ [r9 ++ r10 ++ r11, text_213, (" " : Str) ++ text_213]) Q E) E) E) E)))) E) E) E) E) E) E) E)) E) : bindP (bindW (pureW box_212) fun x0 => bindW (bindW (bindW (pureW text_213) lenS) fun x => bindW (pureW (1 : Int)) fun y => addI x y) fun x1 => b__law_draw x0 x1) (fun at_214 => bindP (bindW (bindW (pureW ("0" : Str)) fun x => bindW (bindW (pureW ("1" : Str)) fun x => bindW (bindW (pureW ("9" : Str)) fun x => bindW (bindW (pureW (" " : Str)) fun x => bindW (bindW (pureW ("-" : Str)) fun x => bindW (bindW (pureW (":" : Str)) fun x => bindW (bindW (pureW ("," : Str)) fun x => bindW (bindW (pureW ("a" : Str)) fun x => bindW (bindW (pureW ("+" : Str)) fun x => bindW (bindW (pureW ("." : Str)) fun x => bindW (bindW (pureW ("" : Str)) fun x => bindW (bindW (pureW ("00" : Str)) fun x => bindW (bindW (pureW ("  " : Str)) fun x => bindW (bindW (pureW ("\n" : Str)) fun x => bindW (pureW []) fun xs => pureW (x :: xs)) fun xs => pureW (x :: xs)) fun xs => pureW (x :: xs)) fun xs => pureW (x :: xs)) fun xs => pureW (x :: xs)) fun xs => pureW (x :: xs)) fun xs => pureW (x :: xs)) fun xs => pureW (x :: xs)) fun xs => pureW (x :: xs)) fun xs => pureW (x :: xs)) fun xs => pureW (x :: xs)) fun xs => pureW (x :: xs)) fun xs => pureW (x :: xs)) fun xs => pureW (x :: xs)) szW) (fun signs_215 => bindP (bindW (bindW (bindW (bindW (bindW (pureW text_213) fun z => bindW (pureW none) fun l => bindW (bindW (pureW at_214) fun i => pureW (some i)) fun h => cutSW z l h) fun x => bindW (bindW (pureW box_212) fun x0 => bindW (pureW signs_215) fun x1 => t__law_one x0 x1) fun y => catS x y) fun x => bindW (bindW (pureW text_213) fun z => bindW (bindW (pureW at_214) fun i => pureW (some i)) fun l => bindW (pureW none) fun h => cutSW z l h) fun y => catS x y) fun x => bindW (bindW (bindW (bindW (pureW text_213) fun z => bindW (pureW none) fun l => bindW (bindW (pureW at_214) fun i => pureW (some i)) fun h => cutSW z l h) fun x => bindW (bindW (pureW text_213) fun z => bindW (bindW (bindW (pureW at_214) fun x => bindW (pureW (1 : Int)) fun y => addI x y) fun i => pureW (some i)) fun l => bindW (pureW none) fun h => cutSW z l h) fun y => catS x y) fun x => bindW (bindW (bindW (pureW text_213) fun x => bindW (bindW (pureW box_212) fun x0 => bindW (pureW signs_215) fun x1 => t__law_one x0 x1) fun y => catS x y) fun x => bindW (pureW []) fun xs => pureW (x :: xs)) fun xs => pureW (x :: xs)) fun xs => pureW (x :: xs)) szW) (fun some_216 => bindP (bindW (pureW text_213) fun x => bindW (pureW (" " : Str)) fun y => splW x y) (fun words_217 => bindP (bindW (pureW box_212) fun x0 => bindW (bindW (pureW words_217) lenW) fun x1 => b__law_draw x0 x1) (fun spot_218 => bindP (bindW (pureW some_216) fun x => bindW (bindW (bindW (bindW (pureW (" " : Str)) fun x => bindW (bindW (bindW (pureW words_217) fun xs => bindW (pureW none) fun l => bindW (bindW (pureW spot_218) fun i => pureW (some i)) fun h => pureW (cutT xs l h)) fun x => bindW (bindW (pureW words_217) fun xs => bindW (bindW (bindW (pureW spot_218) fun x => bindW (pureW (1 : Int)) fun y => addI x y) fun i => pureW (some i)) fun l => bindW (pureW none) fun h => pureW (cutT xs l h)) fun y => catW x y) fun y => joinW x y) fun x => bindW (bindW (bindW (pureW (" " : Str)) fun x => bindW (bindW (pureW words_217) fun x => bindW (bindW (pureW words_217) fun xs => bindW (bindW (pureW spot_218) fun i => pureW (some i)) fun l => bindW (pureW none) fun h => pureW (cutT xs l h)) fun y => catW x y) fun y => joinW x y) fun x => bindW (bindW (bindW (pureW (" " : Str)) fun x => bindW (bindW (pureW words_217) fun xs => pureW xs.reverse) fun y => joinW x y) fun x => bindW (pureW []) fun xs => pureW (x :: xs)) fun xs => pureW (x :: xs)) fun xs => pureW (x :: xs)) szW) fun y => catW x y) (fun some_219 => ((bindW (pureW box_212) fun x0 => bindW (bindW (pureW some_219) fun x => bindW (bindW (bindW (bindW (bindW (bindW (pureW text_213) fun z => bindW (pureW none) fun l => bindW (bindW (pureW at_214) fun i => pureW (some i)) fun h => cutSW z l h) fun x => bindW (bindW (pureW box_212) fun x0 => bindW (pureW signs_215) fun x1 => t__law_one x0 x1) fun y => catS x y) fun x => bindW (bindW (pureW text_213) fun z => bindW (bindW (bindW (pureW at_214) fun x => bindW (pureW (1 : Int)) fun y => addI x y) fun i => pureW (some i)) fun l => bindW (pureW none) fun h => cutSW z l h) fun y => catS x y) fun x => bindW (bindW (pureW text_213) fun x => bindW (bindW (bindW (pureW (" " : Str)) fun x => bindW (pureW text_213) fun y => catS x y) fun x => bindW (pureW []) fun xs => pureW (x :: xs)) fun xs => pureW (x :: xs)) fun xs => pureW (x :: xs)) szW) fun y => catW x y) fun x1 => t__law_one x0 x1) Q E)) E) E) E) E) E) E := q
def sp__law_changed : SpD := fun ds Qd E => ∃ (box_212 : Unit) (text_213 : Str) (R : Str → Prop), ds = [eBx box_212, eS text_213] ∧ (∀ r, R r → Qd (eS r)) ∧ t__law_changed box_212 text_213 R E
theorem c__law_changed (box_212 : Unit) (text_213 : Str) (Qd : DK) (E : EK) (R : Str → Prop) (hr : ∀ r, R r → Qd (eS r)) (q : t__law_changed box_212 text_213 R E) : sp__law_changed [eBx box_212, eS text_213] Qd E := ⟨box_212, text_213, R, rfl, hr, q⟩
theorem len__law_changed : ∀ ds Q E, sp__law_changed ds Q E → ds.length = 2 := by rintro ds Q E ⟨_, _, _, rfl, _⟩; rfl
def t_law : W Bool := fun Q E => in62 (5 : Int) ∧ forP (fun x (s : Unit) N B => szOk 2 ∧ 0 < (2 : Int) ∧ ∃ x2, atI [(6 : Int), (3 : Int)] (x % (2 : Int)) = some x2 ∧ szOk 2 ∧ 0 < (2 : Int) ∧ ∃ x3, atI [(6 : Int), (2 : Int)] (x % (2 : Int)) = some x3 ∧ CPow (10 : Int) (9 : Int) ∧ szOk 3 ∧ 0 < (3 : Int) ∧ ∃ x4, atI [(9 : Int), (10 : Int) ^ (9 : Int).toNat, (9 : Int)] (x % (3 : Int)) = some x4 ∧ t__law_book () x2 x3 x4 (fun r => t_book_text r (fun r2 => t__law_payments () r (fun r3 => t_payments_text r3 (fun r4 => t__law_odd () (fun r5 => szOk 10 ∧ joinP (fun K => K [eS r2, eS r4, eS ("" : Str), eS (" " : Str), eS ("0:" : Str), eS ("0" : Str), eS ("0: 0:" : Str), eS ("0:1-1" : Str), eS ("5:1-2 7:0-3" : Str), r5]) (fun v => mulTxW ("9" : Str) (5000 : Int) (fun r6 => szOk 1 ∧ szOk 1 ∧ szOk (r6.length + (":" : Str).length) ∧ szOk (("0:1-" : Str).length + r6.length) ∧ szOk ((("0:1-" : Str) ++ r6).length + (" 0:" : Str).length) ∧ szOk (("0:" : Str).length + r6.length) ∧ szOk ((("0:" : Str) ++ r6).length + ("-1" : Str).length) ∧ szOk 7 ∧ joinP (fun K => K [eL eS [r2], eT eS [r2], D.non, eS r6, eS (r6 ++ (":" : Str)), eS (("0:1-" : Str) ++ r6 ++ (" 0:" : Str)), eS (("0:" : Str) ++ r6 ++ ("-1" : Str))]) (fun v2 => szOk (v.length + v2.length) ∧ szOk 1 ∧ szOk 2 ∧ t__law_one () [(6 : Int), (7 : Int)] (fun r7 => (-(2 ^ 63) ≤ r7 ∧ r7 < 2 ^ 63 ∧ szOk ([("0:" : Str)].length * r7.toNat)) ∧ joinP (fun K => K ((List.replicate r7.toNat [("0:" : Str)]).flatten)) (fun v3 => (v3.map (·.length)).sum + v3.length * (" " : Str).length ≤ 16777216 ∧ (v ++ v2).length < sizeLine ∧ in62 (9 : Int) ∧ forP (fun x5 (s2 : (List D)) N2 B2 => t__law_changed () r2 (fun r8 => t__law_changed () r4 (fun r9 => t__law_changed () r8 (fun r10 => t__law_changed () r9 (fun r11 => szOk 4 ∧ szOk (s2.length + [eS r8, eS r9, eS r10, eS r11].length) ∧ N2 (s2 ++ [eS r8, eS r9, eS r10, eS r11])) E) E) E) E) (fun (s2 : (List D)) => forP (fun x5 (s3 : Unit) N2 B2 => Fit (eA x5) ∧ t__law_told D.non x5 (fun r8 => Fit (eA r8) ∧ t__law_due_book x5 (fun r9 => Fit (eA r9) ∧ (if (!(eqB (eA r8).py.shown (eA r9).py.shown)) = true then Q false else t__law_told (eT (eP eI (eT (eP eI eI))) r) x5 (fun r10 => Fit (eA r10) ∧ t__law_due_payments r x5 (fun r11 => Fit (eA r11) ∧ (if (!(eqB (eA r10).py.shown (eA r11).py.shown)) = true then Q false else Fit (eA x5) ∧ (if (!(eqB (eA x5).py.shown (eA x5).py.shown)) = true then Q false else N2 ()))) E) E)) E) E) (fun (s3 : Unit) => N ()) s2 ()) (rgI 0 (9 : Int).toNat) (v ++ v2 ++ [eS (Txt.join (" " : Str) v3)]))) E)) E)) E) E) E) E) E) (fun (s : Unit) => szOk 2 ∧ [(6 : Int), (7 : Int)].length ≤ sizeLine ∧ lcP (fun a Q E => Q true) (fun a Q E => szOk 1 ∧ (-(2 ^ 63) ≤ a ∧ a < 2 ^ 63 ∧ szOk ([("1-1" : Str)].length * a.toNat)) ∧ joinP (fun K => K ((List.replicate a.toNat [("1-1" : Str)]).flatten)) (fun v => (v.map (·.length)).sum + v.length * ("," : Str).length ≤ 16777216 ∧ szOk (("0:" : Str).length + (Txt.join ("," : Str) v).length) ∧ szOk ((("0:" : Str) ++ Txt.join ("," : Str) v).length + (" 0:" : Str).length) ∧ Q (("0:" : Str) ++ Txt.join ("," : Str) v ++ (" 0:" : Str)))) (fun _ => False) [(6 : Int), (7 : Int)] [] (fun ys => ∃ x, atI ys (0 : Int) = some x ∧ t__law_told D.non (eS x) (fun r => Fit (eA r) ∧ szOk 1 ∧ (-(2 ^ 63) ≤ (6 : Int) ∧ (6 : Int) ≤ 1000 ∧ [((1 : Int), (1 : Int))].length ≤ 1000) ∧ szOk 0 ∧ Fit (eP (eP eI (eT (eP eI eI))) (eP eI (eT eI)) (((0 : Int), ((List.replicate (6 : Int).toNat [((1 : Int), (1 : Int))]).flatten)), ((0 : Int), []))) ∧ (if (!(eqB (eA r).py.shown (eP (eP eI (eT (eP eI eI))) (eP eI (eT eI)) (((0 : Int), ((List.replicate (6 : Int).toNat [((1 : Int), (1 : Int))]).flatten)), ((0 : Int), []))).py.shown)) = true then Q false else ∃ x2, atI ys (1 : Int) = some x2 ∧ t__law_told D.non (eS x2) (fun r2 => t__law_told D.non (eS ("1000000000001:" : Str)) (fun r3 => szOk 2 ∧ szOk 1 ∧ szOk 1 ∧ szOk 2 ∧ eqA (eL eA [r2, r3]) (eL (eL eI) [[(0 : Int)], [(0 : Int)]]) Q E) E) E)) E)) (rgI 0 (5 : Int).toNat) ()
theorem u_law (b__law_book : Unit → Int → Int → Int → W (List (Int × (List (Int × Int))))) (b_book_text : (List (Int × (List (Int × Int)))) → W Str) (b__law_payments : Unit → (List (Int × (List (Int × Int)))) → W (List Int)) (b_payments_text : (List Int) → W Str) (b__law_odd : Unit → W D) (b__law_changed : Unit → Str → W Str) (b__law_told : D → D → W D) (b__law_due_book : D → W D) (b__law_due_payments : (List (Int × (List (Int × Int)))) → D → W D) (Q : Bool → Prop) (E : EK) (q : in62 (5 : Int) ∧ forP (fun x (s : Unit) N B => szOk 2 ∧ 0 < (2 : Int) ∧ ∃ x2, atI [(6 : Int), (3 : Int)] (x % (2 : Int)) = some x2 ∧ szOk 2 ∧ 0 < (2 : Int) ∧ ∃ x3, atI [(6 : Int), (2 : Int)] (x % (2 : Int)) = some x3 ∧ CPow (10 : Int) (9 : Int) ∧ szOk 3 ∧ 0 < (3 : Int) ∧ ∃ x4, atI [(9 : Int), (10 : Int) ^ (9 : Int).toNat, (9 : Int)] (x % (3 : Int)) = some x4 ∧ b__law_book () x2 x3 x4 (fun r => b_book_text r (fun r2 => b__law_payments () r (fun r3 => b_payments_text r3 (fun r4 => b__law_odd () (fun r5 => szOk 10 ∧ joinP (fun K => K [eS r2, eS r4, eS ("" : Str), eS (" " : Str), eS ("0:" : Str), eS ("0" : Str), eS ("0: 0:" : Str), eS ("0:1-1" : Str), eS ("5:1-2 7:0-3" : Str), r5]) (fun v => mulTxW ("9" : Str) (5000 : Int) (fun r6 => szOk 1 ∧ szOk 1 ∧ szOk (r6.length + (":" : Str).length) ∧ szOk (("0:1-" : Str).length + r6.length) ∧ szOk ((("0:1-" : Str) ++ r6).length + (" 0:" : Str).length) ∧ szOk (("0:" : Str).length + r6.length) ∧ szOk ((("0:" : Str) ++ r6).length + ("-1" : Str).length) ∧ szOk 7 ∧ joinP (fun K => K [eL eS [r2], eT eS [r2], D.non, eS r6, eS (r6 ++ (":" : Str)), eS (("0:1-" : Str) ++ r6 ++ (" 0:" : Str)), eS (("0:" : Str) ++ r6 ++ ("-1" : Str))]) (fun v2 => szOk (v.length + v2.length) ∧ szOk 1 ∧ szOk 2 ∧ t__law_one () [(6 : Int), (7 : Int)] (fun r7 => (-(2 ^ 63) ≤ r7 ∧ r7 < 2 ^ 63 ∧ szOk ([("0:" : Str)].length * r7.toNat)) ∧ joinP (fun K => K ((List.replicate r7.toNat [("0:" : Str)]).flatten)) (fun v3 => (v3.map (·.length)).sum + v3.length * (" " : Str).length ≤ 16777216 ∧ (v ++ v2).length < sizeLine ∧ in62 (9 : Int) ∧ forP (fun x5 (s2 : (List D)) N2 B2 => b__law_changed () r2 (fun r8 => b__law_changed () r4 (fun r9 => b__law_changed () r8 (fun r10 => b__law_changed () r9 (fun r11 => szOk 4 ∧ szOk (s2.length + [eS r8, eS r9, eS r10, eS r11].length) ∧ N2 (s2 ++ [eS r8, eS r9, eS r10, eS r11])) E) E) E) E) (fun (s2 : (List D)) => forP (fun x5 (s3 : Unit) N2 B2 => Fit (eA x5) ∧ b__law_told D.non x5 (fun r8 => Fit (eA r8) ∧ b__law_due_book x5 (fun r9 => Fit (eA r9) ∧ (if (!(eqB (eA r8).py.shown (eA r9).py.shown)) = true then Q false else b__law_told (eT (eP eI (eT (eP eI eI))) r) x5 (fun r10 => Fit (eA r10) ∧ b__law_due_payments r x5 (fun r11 => Fit (eA r11) ∧ (if (!(eqB (eA r10).py.shown (eA r11).py.shown)) = true then Q false else Fit (eA x5) ∧ (if (!(eqB (eA x5).py.shown (eA x5).py.shown)) = true then Q false else N2 ()))) E) E)) E) E) (fun (s3 : Unit) => N ()) s2 ()) (rgI 0 (9 : Int).toNat) (v ++ v2 ++ [eS (Txt.join (" " : Str) v3)]))) E)) E)) E) E) E) E) E) (fun (s : Unit) => szOk 2 ∧ [(6 : Int), (7 : Int)].length ≤ sizeLine ∧ lcP (fun a Q E => Q true) (fun a Q E => szOk 1 ∧ (-(2 ^ 63) ≤ a ∧ a < 2 ^ 63 ∧ szOk ([("1-1" : Str)].length * a.toNat)) ∧ joinP (fun K => K ((List.replicate a.toNat [("1-1" : Str)]).flatten)) (fun v => (v.map (·.length)).sum + v.length * ("," : Str).length ≤ 16777216 ∧ szOk (("0:" : Str).length + (Txt.join ("," : Str) v).length) ∧ szOk ((("0:" : Str) ++ Txt.join ("," : Str) v).length + (" 0:" : Str).length) ∧ Q (("0:" : Str) ++ Txt.join ("," : Str) v ++ (" 0:" : Str)))) (fun _ => False) [(6 : Int), (7 : Int)] [] (fun ys => ∃ x, atI ys (0 : Int) = some x ∧ b__law_told D.non (eS x) (fun r => Fit (eA r) ∧ szOk 1 ∧ (-(2 ^ 63) ≤ (6 : Int) ∧ (6 : Int) ≤ 1000 ∧ [((1 : Int), (1 : Int))].length ≤ 1000) ∧ szOk 0 ∧ Fit (eP (eP eI (eT (eP eI eI))) (eP eI (eT eI)) (((0 : Int), ((List.replicate (6 : Int).toNat [((1 : Int), (1 : Int))]).flatten)), ((0 : Int), []))) ∧ (if (!(eqB (eA r).py.shown (eP (eP eI (eT (eP eI eI))) (eP eI (eT eI)) (((0 : Int), ((List.replicate (6 : Int).toNat [((1 : Int), (1 : Int))]).flatten)), ((0 : Int), []))).py.shown)) = true then Q false else ∃ x2, atI ys (1 : Int) = some x2 ∧ b__law_told D.non (eS x2) (fun r2 => b__law_told D.non (eS ("1000000000001:" : Str)) (fun r3 => szOk 2 ∧ szOk 1 ∧ szOk 1 ∧ szOk 2 ∧ eqA (eL eA [r2, r3]) (eL (eL eI) [[(0 : Int)], [(0 : Int)]]) Q E) E) E)) E)) (rgI 0 (5 : Int).toNat) ()) : bindP (bindW (pureW (5 : Int)) rng1W) (fun xs => forP (fun x_256 (s_255 : Unit) N_257 B_258 => bindP (bindW (pureW ()) fun x0 => bindW (bindW (bindW (bindW (pureW (6 : Int)) fun x => bindW (bindW (pureW (3 : Int)) fun x => bindW (pureW []) fun xs => pureW (x :: xs)) fun xs => pureW (x :: xs)) szW) fun x => bindW (bindW (pureW x_256) fun x => bindW (pureW (2 : Int)) fun y => modI x y) fun y => ixW x y) fun x1 => bindW (bindW (bindW (bindW (pureW (6 : Int)) fun x => bindW (bindW (pureW (2 : Int)) fun x => bindW (pureW []) fun xs => pureW (x :: xs)) fun xs => pureW (x :: xs)) szW) fun x => bindW (bindW (pureW x_256) fun x => bindW (pureW (2 : Int)) fun y => modI x y) fun y => ixW x y) fun x2 => bindW (bindW (bindW (bindW (pureW (9 : Int)) fun x => bindW (bindW (bindW (pureW (10 : Int)) fun x => bindW (pureW (9 : Int)) fun y => powI x y) fun x => bindW (bindW (pureW (9 : Int)) fun x => bindW (pureW []) fun xs => pureW (x :: xs)) fun xs => pureW (x :: xs)) fun xs => pureW (x :: xs)) szW) fun x => bindW (bindW (pureW x_256) fun x => bindW (pureW (3 : Int)) fun y => modI x y) fun y => ixW x y) fun x3 => b__law_book x0 x1 x2 x3) (fun book_here_262 => bindP (bindW (pureW book_here_262) fun x0 => b_book_text x0) (fun text_263 => bindP (bindW (bindW (pureW ()) fun x0 => bindW (pureW book_here_262) fun x1 => b__law_payments x0 x1) fun x0 => b_payments_text x0) (fun other_264 => bindP (bindW (bindW (bindW (pureW text_263) fun x => pureW (eS x)) fun x => bindW (bindW (bindW (pureW other_264) fun x => pureW (eS x)) fun x => bindW (bindW (bindW (pureW ("" : Str)) fun x => pureW (eS x)) fun x => bindW (bindW (bindW (pureW (" " : Str)) fun x => pureW (eS x)) fun x => bindW (bindW (bindW (pureW ("0:" : Str)) fun x => pureW (eS x)) fun x => bindW (bindW (bindW (pureW ("0" : Str)) fun x => pureW (eS x)) fun x => bindW (bindW (bindW (pureW ("0: 0:" : Str)) fun x => pureW (eS x)) fun x => bindW (bindW (bindW (pureW ("0:1-1" : Str)) fun x => pureW (eS x)) fun x => bindW (bindW (bindW (pureW ("5:1-2 7:0-3" : Str)) fun x => pureW (eS x)) fun x => bindW (bindW (bindW (pureW ()) fun x0 => b__law_odd x0) fun x => bindW (pureW []) fun xs => pureW (x :: xs)) fun xs => pureW (x :: xs)) fun xs => pureW (x :: xs)) fun xs => pureW (x :: xs)) fun xs => pureW (x :: xs)) fun xs => pureW (x :: xs)) fun xs => pureW (x :: xs)) fun xs => pureW (x :: xs)) fun xs => pureW (x :: xs)) fun xs => pureW (x :: xs)) szW) (fun values_265 => bindP (bindW (pureW ("9" : Str)) fun x => bindW (pureW (5000 : Int)) fun y => mulTxW x y) (fun nines_266 => bindP (bindW (pureW values_265) fun x => bindW (bindW (bindW (bindW (bindW (bindW (pureW text_263) fun x => bindW (pureW []) fun xs => pureW (x :: xs)) szW) fun x => pureW ((eL eS) x)) fun x => bindW (bindW (bindW (bindW (bindW (pureW text_263) fun x => bindW (pureW []) fun xs => pureW (x :: xs)) szW) fun x => pureW ((eT eS) x)) fun x => bindW (bindW (pureW D.non) fun x => bindW (bindW (bindW (pureW nines_266) fun x => pureW (eS x)) fun x => bindW (bindW (bindW (bindW (pureW nines_266) fun x => bindW (pureW (":" : Str)) fun y => catS x y) fun x => pureW (eS x)) fun x => bindW (bindW (bindW (bindW (bindW (pureW ("0:1-" : Str)) fun x => bindW (pureW nines_266) fun y => catS x y) fun x => bindW (pureW (" 0:" : Str)) fun y => catS x y) fun x => pureW (eS x)) fun x => bindW (bindW (bindW (bindW (bindW (pureW ("0:" : Str)) fun x => bindW (pureW nines_266) fun y => catS x y) fun x => bindW (pureW ("-1" : Str)) fun y => catS x y) fun x => pureW (eS x)) fun x => bindW (pureW []) fun xs => pureW (x :: xs)) fun xs => pureW (x :: xs)) fun xs => pureW (x :: xs)) fun xs => pureW (x :: xs)) fun xs => pureW (x :: xs)) fun xs => pureW (x :: xs)) fun xs => pureW (x :: xs)) szW) fun y => catW x y) (fun values_267 => bindP (bindW (bindW (pureW (" " : Str)) fun x => bindW (bindW (bindW (bindW (pureW ("0:" : Str)) fun x => bindW (pureW []) fun xs => pureW (x :: xs)) szW) fun x => bindW (bindW (pureW ()) fun x0 => bindW (bindW (bindW (pureW (6 : Int)) fun x => bindW (bindW (pureW (7 : Int)) fun x => bindW (pureW []) fun xs => pureW (x :: xs)) fun xs => pureW (x :: xs)) szW) fun x1 => t__law_one x0 x1) fun y => repL x y) fun y => joinW x y) fun x => pureW (eS x)) (fun z_268 => appP values_267 (bindP (bindW (pureW (9 : Int)) rng1W) (fun xs => forP (fun x_275 (s_274 : (List D)) N_276 B_277 => bindP (bindW (pureW ()) fun x0 => bindW (pureW text_263) fun x1 => b__law_changed x0 x1) (fun first_281 => bindP (bindW (pureW ()) fun x0 => bindW (pureW other_264) fun x1 => b__law_changed x0 x1) (fun second_282 => bindP (bindW (pureW s_274) fun x => bindW (bindW (bindW (bindW (pureW first_281) fun x => pureW (eS x)) fun x => bindW (bindW (bindW (pureW second_282) fun x => pureW (eS x)) fun x => bindW (bindW (bindW (bindW (pureW ()) fun x0 => bindW (pureW first_281) fun x1 => b__law_changed x0 x1) fun x => pureW (eS x)) fun x => bindW (bindW (bindW (bindW (pureW ()) fun x0 => bindW (pureW second_282) fun x1 => b__law_changed x0 x1) fun x => pureW (eS x)) fun x => bindW (pureW []) fun xs => pureW (x :: xs)) fun xs => pureW (x :: xs)) fun xs => pureW (x :: xs)) fun xs => pureW (x :: xs)) szW) fun y => catW x y) (fun values_283 => N_276 values_283) E) E) E) (fun (s_274 : (List D)) => bindP (pureW s_274) (fun xs => forP (fun x_288 (s_287 : Unit) N_289 B_290 => bindP (bindW (pureW x_288) (fun x => reprW (eA x))) (fun shown_294 => bindP (bindW (bindW (bindW (pureW D.non) fun x0 => bindW (pureW x_288) fun x1 => b__law_told x0 x1) (fun x => reprW (eA x))) fun x => bindW (bindW (bindW (pureW x_288) fun x0 => b__law_due_book x0) (fun x => reprW (eA x))) fun y => neW x y) (fun b => ifP b (((pureW false) Q E)) (bindP (bindW (bindW (bindW (bindW (bindW (pureW book_here_262) fun x => pureW ((eT (eP eI (eT (eP eI eI)))) x)) fun x0 => bindW (pureW x_288) fun x1 => b__law_told x0 x1) (fun x => reprW (eA x))) fun x => bindW (bindW (bindW (pureW book_here_262) fun x0 => bindW (pureW x_288) fun x1 => b__law_due_payments x0 x1) (fun x => reprW (eA x))) fun y => neW x y) fun c => ifW c (pureW true) (bindW (bindW (pureW x_288) (fun x => reprW (eA x))) fun x => bindW (pureW shown_294) fun y => neW x y)) (fun b => ifP b (((pureW false) Q E)) (N_289 ())) E)) E) E) (fun (s_287 : Unit) => N_257 ()) xs ()) E) xs (values_267 ++ [z_268])) E)) E) E) E) E) E) E) E) (fun (s_255 : Unit) => bindP (bindW (bindW (bindW (pureW (6 : Int)) fun x => bindW (bindW (pureW (7 : Int)) fun x => bindW (pureW []) fun xs => pureW (x :: xs)) fun xs => pureW (x :: xs)) szW) fun xs => lcW (fun a_296 => (pureW true)) (fun a_296 => (bindW (bindW (pureW ("0:" : Str)) fun x => bindW (bindW (pureW ("," : Str)) fun x => bindW (bindW (bindW (bindW (pureW ("1-1" : Str)) fun x => bindW (pureW []) fun xs => pureW (x :: xs)) szW) fun x => bindW (pureW a_296) fun y => repL x y) fun y => joinW x y) fun y => catS x y) fun x => bindW (pureW (" 0:" : Str)) fun y => catS x y)) xs) (fun texts_295 => bindP (bindW (bindW (bindW (pureW D.non) fun x0 => bindW (bindW (bindW (pureW texts_295) fun x => bindW (pureW (0 : Int)) fun y => ixW x y) fun x => pureW (eS x)) fun x1 => b__law_told x0 x1) (fun x => reprW (eA x))) fun x => bindW (bindW (bindW (bindW (pureW (0 : Int)) fun x => bindW (bindW (bindW (bindW (bindW (pureW (1 : Int)) fun x => bindW (pureW (1 : Int)) fun y => pureW (x, y)) fun x => bindW (pureW []) fun xs => pureW (x :: xs)) szW) fun x => bindW (pureW (6 : Int)) fun y => repT x y) fun y => pureW (x, y)) fun x => bindW (bindW (pureW (0 : Int)) fun x => bindW (bindW (pureW []) szW) fun y => pureW (x, y)) fun y => pureW (x, y)) (fun x => reprW ((eP (eP eI (eT (eP eI eI))) (eP eI (eT eI))) x))) fun y => neW x y) (fun b => ifP b (((pureW false) Q E)) (((bindW (bindW (bindW (bindW (bindW (pureW D.non) fun x0 => bindW (bindW (bindW (pureW texts_295) fun x => bindW (pureW (1 : Int)) fun y => ixW x y) fun x => pureW (eS x)) fun x1 => b__law_told x0 x1) fun x => bindW (bindW (bindW (pureW D.non) fun x0 => bindW (bindW (pureW ("1000000000001:" : Str)) fun x => pureW (eS x)) fun x1 => b__law_told x0 x1) fun x => bindW (pureW []) fun xs => pureW (x :: xs)) fun xs => pureW (x :: xs)) szW) fun x => pureW ((eL eA) x)) fun x => bindW (bindW (bindW (bindW (bindW (bindW (pureW (0 : Int)) fun x => bindW (pureW []) fun xs => pureW (x :: xs)) szW) fun x => bindW (bindW (bindW (bindW (pureW (0 : Int)) fun x => bindW (pureW []) fun xs => pureW (x :: xs)) szW) fun x => bindW (pureW []) fun xs => pureW (x :: xs)) fun xs => pureW (x :: xs)) szW) fun x => pureW ((eL (eL eI)) x)) fun y => eqA x y) Q E))) E) E) xs ()) E := q
abbrev xms : List Str := ["BadBook", "NoAmount", "NoHouse", "NoIndex", "BadText"]
abbrev xfs : List Str := ["index"]
structure Gs (K : PySem.W.Frag) (mg : Str → Option Value) : Prop where
  r_BadText : ∃ C fI, mg "BadText" = some (.ref C) ∧ PySem.SlipX.Txt_index "BadText.__init__" K C fI
  x_tab : XTab K mg "SlipError" xcs xms xfs
  g_ValueError : mg "ValueError" = none
  g_all : mg "all" = none
  g_any : mg "any" = none
  g_bool : mg "bool" = none
  g_enumerate : mg "enumerate" = none
  g_int : mg "int" = none
  g_isinstance : mg "isinstance" = none
  g_len : mg "len" = none
  g_max : mg "max" = none
  g_min : mg "min" = none
  g_range : mg "range" = none
  g_repr : mg "repr" = none
  g_str : mg "str" = none
  g_sum : mg "sum" = none
  g_tuple : mg "tuple" = none
  c_DIGITS : ∃ u, mg "DIGITS" = some u ∧ RelV (.str "0123456789") u
  c_LONGEST : ∃ u, mg "LONGEST" = some u ∧ RelV (.int 13) u
  c_MAX_AMOUNT : ∃ u, mg "MAX_AMOUNT" = some u ∧ RelV (.int 1000000000) u
  c_MAX_HOUSES : ∃ u, mg "MAX_HOUSES" = some u ∧ RelV (.int 6) u
  c_MAX_PURSE : ∃ u, mg "MAX_PURSE" = some u ∧ RelV (.int 1000000000000) u
  c_MAX_SLIPS : ∃ u, mg "MAX_SLIPS" = some u ∧ RelV (.int 6) u
section
variable {P : Program} {w : World} {K : PySem.W.Frag} {mg : Str → Option Value} {base : Heap}
abbrev N_is_integer : List Str := ["value", "low", "high"]
theorem sc_is_integer : FnScope N_is_integer ["value", "low", "high"] (defScope s_is_integer) := ⟨rfl, rfl, rfl, by decide +kernel, rfl, by decide +kernel, by decide +kernel⟩
def d_is_integer_0 : DS_ := (dRet (dAndV (dIsi "int" (dVar 0)) (dAndV (dNotV (dIsi "bool" (dVar 0))) (dChain oLe oLe (dVar 1) (dVar 0) (dVar 2)))))
def r_is_integer_0 : DS_ := d_is_integer_0
def d_is_integer : DS_ := r_is_integer_0
theorem w_is_integer {f : Addr} {fd : FuncData} {k : Nat} (F : Fun K "is_integer" "is_integer" s_is_integer f fd) (G : Gs K mg) (hsys : ∃ o, base.get? sysModules = some o)
    (len : ∀ ds Q E, sp_is_integer ds Q E → ds.length = 3) (law : ∀ ds Q E, sp_is_integer ds Q E → d_is_integer { nx := fun _ => Q .non, rt := Q, ex := E } (dstart 3 ds)) : GFn P w K mg base (k + 1) f fd ["value", "low", "high"] sp_is_integer := by
  exact gfn_mk F sc_is_integer len (fun cdv A outer s H E hr hgd => (ds_one (ds_ret (de_and (de_isi rfl G.g_isinstance rfl G.g_int (by decide +kernel) kit_int (de_var 0)) (de_and (de_not (de_isi rfl G.g_isinstance rfl G.g_bool (by decide +kernel) kit_bool (de_var 0))) (de_one (de_chain op_le od_B0 op_le od_B0 (de_var 1) (de_var 0) (de_var 2)))))))) law
abbrev N_debt_of : List Str := ["pile", "to", "amount"]
theorem sc_debt_of : FnScope N_debt_of ["pile"] (defScope s_debt_of) := ⟨rfl, rfl, rfl, by decide +kernel, rfl, by decide +kernel, by decide +kernel⟩
def d_debt_of_0 : DS_ := (dRet (dCB oSumA (dCons (dFrz (dLc (dSeqI (dVar 0)) (dgTup 2 (dgCons (dgName 1) (dgCons (dgName 2) dgNil))) dYes (dVar 2) [1, 2])) dNil)))
def r_debt_of_0 : DS_ := d_debt_of_0
def d_debt_of : DS_ := r_debt_of_0
theorem w_debt_of {f : Addr} {fd : FuncData} {k : Nat} (F : Fun K "debt_of" "debt_of" s_debt_of f fd) (G : Gs K mg) (hsys : ∃ o, base.get? sysModules = some o)
    (len : ∀ ds Q E, sp_debt_of ds Q E → ds.length = 1) (law : ∀ ds Q E, sp_debt_of ds Q E → d_debt_of { nx := fun _ => Q .non, rt := Q, ex := E } (dstart 3 ds)) : GFn P w K mg base (k + 1) f fd ["pile"] sp_debt_of := by
  exact gfn_mk F sc_debt_of len (fun cdv A outer s H E hr hgd => (ds_one (ds_ret (de_sumA rfl rfl G.g_sum (da_cons (DN.toDE (dn_lc rfl sc_debt_of.nd (di_seq (de_var 0)) (own := [("to", 1), ("amount", 2)]) (blkOk_by (by show blkC N_debt_of (defScope s_debt_of) _ _ = true; decide +kernel)) (vsg := [1, 2]) (by decide) (fun s H C cl fp => (dg_tup (n := 2) rfl (dgs_cons (dg_name 1 sc_debt_of.nd) (dgs_cons (dg_name 2 sc_debt_of.nd) dgs_nil)))) (fun s H C cl fp => dts_nil) (fun s H C cl fp => (de_var 2)))) da_nil))))) law
abbrev N_debts : List Str := ["book", "purse", "pile"]
theorem sc_debts : FnScope N_debts ["book"] (defScope s_debts) := ⟨rfl, rfl, rfl, by decide +kernel, rfl, by decide +kernel, by decide +kernel⟩
def d_debts_0 : DS_ := (dRet (dCB oTuple (dCons (dFrz (dLc (dSeqI (dVar 0)) (dgTup 2 (dgCons (dgName 1) (dgCons (dgName 2) dgNil))) dYes (dCall sp_debt_of (dCons (dVar 2) dNil)) [1, 2])) dNil)))
def r_debts_0 : DS_ := d_debts_0
def d_debts : DS_ := r_debts_0
theorem w_debts {f : Addr} {fd : FuncData} {k : Nat} (F : Fun K "debts" "debts" s_debts f fd) (G : Gs K mg) (hsys : ∃ o, base.get? sysModules = some o) (C_debt_of : Cal P w K mg base k "debt_of" ["pile"] sp_debt_of)
    (len : ∀ ds Q E, sp_debts ds Q E → ds.length = 1) (law : ∀ ds Q E, sp_debts ds Q E → d_debts { nx := fun _ => Q .non, rt := Q, ex := E } (dstart 3 ds)) : GFn P w K mg base (k + 1) f fd ["book"] sp_debts := by
  exact gfn_mk F sc_debts len (fun cdv A outer s H E hr hgd => (ds_one (ds_ret (de_tuple rfl G.g_tuple (da_cons (DN.toDE (dn_lc rfl sc_debts.nd (di_seq (de_var 0)) (own := [("purse", 1), ("pile", 2)]) (blkOk_by (by show blkC N_debts (defScope s_debts) _ _ = true; decide +kernel)) (vsg := [1, 2]) (by decide) (fun s H C cl fp => (dg_tup (n := 2) rfl (dgs_cons (dg_name 1 sc_debts.nd) (dgs_cons (dg_name 2 sc_debts.nd) dgs_nil)))) (fun s H C cl fp => dts_nil) (fun s H C cl fp => (de_call C_debt_of hr hgd passL rfl (da_cons (de_var 2) da_nil))))) da_nil))))) law
abbrev N_number_in : List Str := ["word", "sign"]
theorem sc_number_in : FnScope N_number_in ["word"] (defScope s_number_in) := ⟨rfl, rfl, rfl, by decide +kernel, rfl, by decide +kernel, by decide +kernel⟩
def d_number_in_1 : DS_ := (dRet (dIf (dAnd (dTst (dOp oEq (dOp oIx (dVar 0) (dC (.it 0))) (dC (.st "0")))) (dTst (dOp oNe (dVar 0) (dC (.st "0"))))) (dC .non) (dCB oIntS (dCons (dVar 0) dNil))))
def r_number_in_1 : DS_ := d_number_in_1
def d_number_in_0 : DS_ := (dIfS (dOr (dNot (dTst (dChain oLe oLe (dC (.it 1)) (dCB oLen (dCons (dVar 0) dNil)) (dC (.it 13))))) (dNot (dTst (dCB oAll (dCons (dFrz (dLc (dSgns (dVar 0)) (dgName 1) dYes (dOp oInS (dVar 1) (dC (.st "0123456789"))) [1])) dNil))))) (dRet (dC .non)) dNext)
def r_number_in_0 : DS_ := dSeq d_number_in_0 r_number_in_1
def d_number_in : DS_ := r_number_in_0
theorem w_number_in {f : Addr} {fd : FuncData} {k : Nat} (F : Fun K "number_in" "number_in" s_number_in f fd) (G : Gs K mg) (hsys : ∃ o, base.get? sysModules = some o)
    (len : ∀ ds Q E, sp_number_in ds Q E → ds.length = 1) (law : ∀ ds Q E, sp_number_in ds Q E → d_number_in { nx := fun _ => Q .non, rt := Q, ex := E } (dstart 2 ds)) : GFn P w K mg base (k + 1) f fd ["word"] sp_number_in := by
  obtain ⟨u_DIGITS, hu_DIGITS, hr_DIGITS⟩ := G.c_DIGITS
  obtain ⟨u_LONGEST, hu_LONGEST, hr_LONGEST⟩ := G.c_LONGEST
  exact gfn_mk F sc_number_in len (fun cdv A outer s H E hr hgd => (ds_cons (ds_if (DW.toDB (dw_or (db_not (db_chain op_le od_B0 op_le od_B0 de_int (de_len rfl G.g_len (da_cons (de_var 0) da_nil)) (de_globI rfl hu_LONGEST hr_LONGEST))) (dw_or1 (db_not (db_val (de_all rfl rfl G.g_all (da_cons (DN.toDE (dn_lc rfl sc_number_in.nd (di_sgns (de_var 0)) (own := [("sign", 1)]) (blkOk_by (by show blkC N_number_in (defScope s_number_in) _ _ = true; decide +kernel)) (vsg := [1]) (by decide) (fun s H C cl fp => (dg_name 1 sc_number_in.nd)) (fun s H C cl fp => dts_nil) (fun s H C cl fp => (de_inS (de_var 1) (de_globS rfl hu_DIGITS hr_DIGITS))))) da_nil))))))) (ds_one (ds_ret de_non)) ds_nil) (ds_one (ds_ret (de_ifExp (DW.toDB (dw_and (db_eq hr (de_ix (de_var 0) de_int) de_str) (dw_and1 (db_ne hr (de_var 0) de_str)))) de_non (de_intS rfl G.g_int (da_cons (de_var 0) da_nil))))))) law
abbrev N_slip_text : List Str := ["slip"]
theorem sc_slip_text : FnScope N_slip_text ["slip"] (defScope s_slip_text) := ⟨rfl, rfl, rfl, by decide +kernel, rfl, by decide +kernel, by decide +kernel⟩
def d_slip_text_0 : DS_ := (dRet (dFStr (djCons (dFmt (dOp oIx (dVar 0) (dC (.it 0)))) (djCons (dC (.st "-")) (djCons (dFmt (dOp oIx (dVar 0) (dC (.it 1)))) djNil)))))
def r_slip_text_0 : DS_ := d_slip_text_0
def d_slip_text : DS_ := r_slip_text_0
theorem w_slip_text {f : Addr} {fd : FuncData} {k : Nat} (F : Fun K "slip_text" "slip_text" s_slip_text f fd) (G : Gs K mg) (hsys : ∃ o, base.get? sysModules = some o)
    (len : ∀ ds Q E, sp_slip_text ds Q E → ds.length = 1) (law : ∀ ds Q E, sp_slip_text ds Q E → d_slip_text { nx := fun _ => Q .non, rt := Q, ex := E } (dstart 1 ds)) : GFn P w K mg base (k + 1) f fd ["slip"] sp_slip_text := by
  exact gfn_mk F sc_slip_text len (fun cdv A outer s H E hr hgd => (ds_one (ds_ret (de_fstr (dj_cons (de_fmt (de_ix (de_var 0) de_int)) (dj_cons de_str (dj_cons (de_fmt (de_ix (de_var 0) de_int)) dj_nil))))))) law
abbrev N_house_text : List Str := ["house", "purse", "pile", "slip"]
theorem sc_house_text : FnScope N_house_text ["house"] (defScope s_house_text) := ⟨rfl, rfl, rfl, by decide +kernel, rfl, by decide +kernel, by decide +kernel⟩
def d_house_text_1 : DS_ := (dRet (dOp oAdd (dFStr (djCons (dFmt (dVar 1)) (djCons (dC (.st ":")) djNil))) (dJoin (dC (.st ",")) (dFrz (dLc (dSeqI (dVar 2)) (dgName 3) dYes (dCall sp_slip_text (dCons (dVar 3) dNil)) [3])))))
def r_house_text_1 : DS_ := d_house_text_1
def d_house_text_0 : DS_ := (dAsg (dVar 0) (dgTup 2 (dgCons (dgName 1) (dgCons (dgName 2) dgNil))))
def r_house_text_0 : DS_ := dSeq d_house_text_0 r_house_text_1
def d_house_text : DS_ := r_house_text_0
theorem w_house_text {f : Addr} {fd : FuncData} {k : Nat} (F : Fun K "house_text" "house_text" s_house_text f fd) (G : Gs K mg) (hsys : ∃ o, base.get? sysModules = some o) (C_slip_text : Cal P w K mg base k "slip_text" ["slip"] sp_slip_text)
    (len : ∀ ds Q E, sp_house_text ds Q E → ds.length = 1) (law : ∀ ds Q E, sp_house_text ds Q E → d_house_text { nx := fun _ => Q .non, rt := Q, ex := E } (dstart 4 ds)) : GFn P w K mg base (k + 1) f fd ["house"] sp_house_text := by
  exact gfn_mk F sc_house_text len (fun cdv A outer s H E hr hgd => (ds_cons (ds_asg (de_var 0) (dg_tup (n := 2) rfl (dgs_cons (dg_name 1 sc_house_text.nd) (dgs_cons (dg_name 2 sc_house_text.nd) dgs_nil)))) (ds_one (ds_ret (de_add (de_fstr (dj_cons (de_fmt (de_var 1)) (dj_cons de_str dj_nil))) (de_join de_str (DN.toDE (dn_lc rfl sc_house_text.nd (di_seq (de_var 2)) (own := [("slip", 3)]) (blkOk_by (by show blkC N_house_text (defScope s_house_text) _ _ = true; decide +kernel)) (vsg := [3]) (by decide) (fun s H C cl fp => (dg_name 3 sc_house_text.nd)) (fun s H C cl fp => dts_nil) (fun s H C cl fp => (de_call C_slip_text hr hgd passL rfl (da_cons (de_var 3) da_nil))))))))))) law
abbrev N_book_text : List Str := ["book", "house"]
theorem sc_book_text : FnScope N_book_text ["book"] (defScope s_book_text) := ⟨rfl, rfl, rfl, by decide +kernel, rfl, by decide +kernel, by decide +kernel⟩
def d_book_text_0 : DS_ := (dRet (dJoin (dC (.st " ")) (dFrz (dLc (dSeqI (dVar 0)) (dgName 1) dYes (dCall sp_house_text (dCons (dVar 1) dNil)) [1]))))
def r_book_text_0 : DS_ := d_book_text_0
def d_book_text : DS_ := r_book_text_0
theorem w_book_text {f : Addr} {fd : FuncData} {k : Nat} (F : Fun K "book_text" "book_text" s_book_text f fd) (G : Gs K mg) (hsys : ∃ o, base.get? sysModules = some o) (C_house_text : Cal P w K mg base k "house_text" ["house"] sp_house_text)
    (len : ∀ ds Q E, sp_book_text ds Q E → ds.length = 1) (law : ∀ ds Q E, sp_book_text ds Q E → d_book_text { nx := fun _ => Q .non, rt := Q, ex := E } (dstart 2 ds)) : GFn P w K mg base (k + 1) f fd ["book"] sp_book_text := by
  exact gfn_mk F sc_book_text len (fun cdv A outer s H E hr hgd => (ds_one (ds_ret (de_join de_str (DN.toDE (dn_lc rfl sc_book_text.nd (di_seq (de_var 0)) (own := [("house", 1)]) (blkOk_by (by show blkC N_book_text (defScope s_book_text) _ _ = true; decide +kernel)) (vsg := [1]) (by decide) (fun s H C cl fp => (dg_name 1 sc_book_text.nd)) (fun s H C cl fp => dts_nil) (fun s H C cl fp => (de_call C_house_text hr hgd passL rfl (da_cons (de_var 1) da_nil))))))))) law
abbrev N_payments_text : List Str := ["payments", "paid"]
theorem sc_payments_text : FnScope N_payments_text ["payments"] (defScope s_payments_text) := ⟨rfl, rfl, rfl, by decide +kernel, rfl, by decide +kernel, by decide +kernel⟩
def d_payments_text_0 : DS_ := (dRet (dJoin (dC (.st " ")) (dFrz (dLc (dSeqI (dVar 0)) (dgName 1) dYes (dCB oStr (dCons (dVar 1) dNil)) [1]))))
def r_payments_text_0 : DS_ := d_payments_text_0
def d_payments_text : DS_ := r_payments_text_0
theorem w_payments_text {f : Addr} {fd : FuncData} {k : Nat} (F : Fun K "payments_text" "payments_text" s_payments_text f fd) (G : Gs K mg) (hsys : ∃ o, base.get? sysModules = some o)
    (len : ∀ ds Q E, sp_payments_text ds Q E → ds.length = 1) (law : ∀ ds Q E, sp_payments_text ds Q E → d_payments_text { nx := fun _ => Q .non, rt := Q, ex := E } (dstart 2 ds)) : GFn P w K mg base (k + 1) f fd ["payments"] sp_payments_text := by
  exact gfn_mk F sc_payments_text len (fun cdv A outer s H E hr hgd => (ds_one (ds_ret (de_join de_str (DN.toDE (dn_lc rfl sc_payments_text.nd (di_seq (de_var 0)) (own := [("paid", 1)]) (blkOk_by (by show blkC N_payments_text (defScope s_payments_text) _ _ = true; decide +kernel)) (vsg := [1]) (by decide) (fun s H C cl fp => (dg_name 1 sc_payments_text.nd)) (fun s H C cl fp => dts_nil) (fun s H C cl fp => (de_str1 rfl G.g_str (da_cons (de_var 1) da_nil))))))))) law
abbrev N_slip_in : List Str := ["word", "numbers", "part"]
theorem sc_slip_in : FnScope N_slip_in ["word"] (defScope s_slip_in) := ⟨rfl, rfl, rfl, by decide +kernel, rfl, by decide +kernel, by decide +kernel⟩
def d_slip_in_2 : DS_ := (dRet (dIf (dTst (dCall sp_is_integer (dCons (dOp oIx (dVar 1) (dC (.it 1))) (dCons (dC (.it 1)) (dCons (dC (.it 1000000000)) dNil))))) (dTup (dCons (dOp oIx (dVar 1) (dC (.it 0))) (dCons (dOp oIx (dVar 1) (dC (.it 1))) dNil))) (dC .non)))
def r_slip_in_2 : DS_ := d_slip_in_2
def d_slip_in_1 : DS_ := (dIfS (dOr (dTst (dOp oNe (dCB oLen (dCons (dVar 1) dNil)) (dC (.it 2)))) (dNot (dTst (dCall sp_is_integer (dCons (dOp oIx (dVar 1) (dC (.it 0))) (dCons (dC (.it 0)) (dCons (dOp oSub (dC (.it 6)) (dC (.it 1))) dNil))))))) (dRet (dC .non)) dNext)
def r_slip_in_1 : DS_ := dSeq d_slip_in_1 r_slip_in_2
def d_slip_in_0 : DS_ := (dSetN 1 (dLc (dSeqI (dFrz (dSplitN (dVar 0) (dC (.st "-"))))) (dgName 2) dYes (dCall sp_number_in (dCons (dVar 2) dNil)) [2]))
def r_slip_in_0 : DS_ := dSeq d_slip_in_0 r_slip_in_1
def d_slip_in : DS_ := r_slip_in_0
theorem w_slip_in {f : Addr} {fd : FuncData} {k : Nat} (F : Fun K "slip_in" "slip_in" s_slip_in f fd) (G : Gs K mg) (hsys : ∃ o, base.get? sysModules = some o) (C_is_integer : Cal P w K mg base k "is_integer" ["value", "low", "high"] sp_is_integer) (C_number_in : Cal P w K mg base k "number_in" ["word"] sp_number_in)
    (len : ∀ ds Q E, sp_slip_in ds Q E → ds.length = 1) (law : ∀ ds Q E, sp_slip_in ds Q E → d_slip_in { nx := fun _ => Q .non, rt := Q, ex := E } (dstart 3 ds)) : GFn P w K mg base (k + 1) f fd ["word"] sp_slip_in := by
  obtain ⟨u_MAX_AMOUNT, hu_MAX_AMOUNT, hr_MAX_AMOUNT⟩ := G.c_MAX_AMOUNT
  obtain ⟨u_MAX_HOUSES, hu_MAX_HOUSES, hr_MAX_HOUSES⟩ := G.c_MAX_HOUSES
  exact gfn_mk F sc_slip_in len (fun cdv A outer s H E hr hgd => (ds_cons (ds_setLcN 1 rfl sc_slip_in.nd (di_seq (DN.toDE (dn_split (de_var 0) de_str))) (own := [("part", 2)]) (blkOk_by (by show blkC N_slip_in (defScope s_slip_in) _ _ = true; decide +kernel)) (vsg := [2]) (by decide) (fun s H C cl fp => (dg_name 2 sc_slip_in.nd)) (fun s H C cl fp => dts_nil) (fun s H C cl fp => (de_call C_number_in hr hgd passL rfl (da_cons (de_var 2) da_nil))) rfl) (ds_cons (ds_if (DW.toDB (dw_or (db_ne hr (de_len rfl G.g_len (da_cons (de_var 1) da_nil)) de_int) (dw_or1 (db_not (db_val (de_call C_is_integer hr hgd passD rfl (da_cons (de_ix (de_var 1) de_int) (da_cons de_int (da_cons (de_sub (de_globI rfl hu_MAX_HOUSES hr_MAX_HOUSES) de_int) da_nil))))))))) (ds_one (ds_ret de_non)) ds_nil) (ds_one (ds_ret (de_ifExp (db_val (de_call C_is_integer hr hgd passD rfl (da_cons (de_ix (de_var 1) de_int) (da_cons de_int (da_cons (de_globI rfl hu_MAX_AMOUNT hr_MAX_AMOUNT) da_nil))))) (de_tup (da_cons (de_ix (de_var 1) de_int) (da_cons (de_ix (de_var 1) de_int) da_nil))) de_non)))))) law
abbrev N_house_in : List Str := ["word", "parts", "slips", "part"]
theorem sc_house_in : FnScope N_house_in ["word"] (defScope s_house_in) := ⟨rfl, rfl, rfl, by decide +kernel, rfl, by decide +kernel, by decide +kernel⟩
def d_house_in_4 : DS_ := (dRet (dTup (dCons (dCall sp_number_in (dCons (dOp oIx (dVar 1) (dC (.it 0))) dNil)) (dCons (dCB oTuple (dCons (dVar 2) dNil)) dNil))))
def r_house_in_4 : DS_ := d_house_in_4
def d_house_in_3 : DS_ := (dIfS (dOr (dTst (dOp oIn (dC .non) (dVar 2))) (dTst (dOp oGt (dCB oLen (dCons (dVar 2) dNil)) (dC (.it 6))))) (dRet (dC .non)) dNext)
def r_house_in_3 : DS_ := dSeq d_house_in_3 r_house_in_4
def d_house_in_2 : DS_ := (dSet 2 (dIf (dTst (dOp oNe (dOp oIx (dVar 1) (dC (.it 1))) (dC (.st "")))) (dFrz (dLc (dSeqI (dFrz (dSplitN (dOp oIx (dVar 1) (dC (.it 1))) (dC (.st ","))))) (dgName 3) dYes (dCall sp_slip_in (dCons (dVar 3) dNil)) [3])) (dLst dNil)))
def r_house_in_2 : DS_ := dSeq d_house_in_2 r_house_in_3
def d_house_in_1 : DS_ := (dIfS (dOr (dTst (dOp oNe (dCB oLen (dCons (dVar 1) dNil)) (dC (.it 2)))) (dNot (dTst (dCall sp_is_integer (dCons (dCall sp_number_in (dCons (dOp oIx (dVar 1) (dC (.it 0))) dNil)) (dCons (dC (.it 0)) (dCons (dC (.it 1000000000000)) dNil))))))) (dRet (dC .non)) dNext)
def r_house_in_1 : DS_ := dSeq d_house_in_1 r_house_in_2
def d_house_in_0 : DS_ := (dSet 1 (dFrz (dSplitN (dVar 0) (dC (.st ":")))))
def r_house_in_0 : DS_ := dSeq d_house_in_0 r_house_in_1
def d_house_in : DS_ := r_house_in_0
theorem w_house_in {f : Addr} {fd : FuncData} {k : Nat} (F : Fun K "house_in" "house_in" s_house_in f fd) (G : Gs K mg) (hsys : ∃ o, base.get? sysModules = some o) (C_is_integer : Cal P w K mg base k "is_integer" ["value", "low", "high"] sp_is_integer) (C_number_in : Cal P w K mg base k "number_in" ["word"] sp_number_in) (C_slip_in : Cal P w K mg base k "slip_in" ["word"] sp_slip_in)
    (len : ∀ ds Q E, sp_house_in ds Q E → ds.length = 1) (law : ∀ ds Q E, sp_house_in ds Q E → d_house_in { nx := fun _ => Q .non, rt := Q, ex := E } (dstart 4 ds)) : GFn P w K mg base (k + 1) f fd ["word"] sp_house_in := by
  obtain ⟨u_MAX_PURSE, hu_MAX_PURSE, hr_MAX_PURSE⟩ := G.c_MAX_PURSE
  obtain ⟨u_MAX_SLIPS, hu_MAX_SLIPS, hr_MAX_SLIPS⟩ := G.c_MAX_SLIPS
  exact gfn_mk F sc_house_in len (fun cdv A outer s H E hr hgd => (ds_cons (ds_set 1 (DN.toDE (dn_split (de_var 0) de_str)) sc_house_in.nd) (ds_cons (ds_if (DW.toDB (dw_or (db_ne hr (de_len rfl G.g_len (da_cons (de_var 1) da_nil)) de_int) (dw_or1 (db_not (db_val (de_call C_is_integer hr hgd passD rfl (da_cons (de_call C_number_in hr hgd passD rfl (da_cons (de_ix (de_var 1) de_int) da_nil)) (da_cons de_int (da_cons (de_globI rfl hu_MAX_PURSE hr_MAX_PURSE) da_nil))))))))) (ds_one (ds_ret de_non)) ds_nil) (ds_cons (ds_set 2 (de_ifExp (db_ne hr (de_ix (de_var 1) de_int) de_str) (DN.toDE (dn_lc rfl sc_house_in.nd (di_seq (DN.toDE (dn_split (de_ix (de_var 1) de_int) de_str))) (own := [("part", 3)]) (blkOk_by (by show blkC N_house_in (defScope s_house_in) _ _ = true; decide +kernel)) (vsg := [3]) (by decide) (fun s H C cl fp => (dg_name 3 sc_house_in.nd)) (fun s H C cl fp => dts_nil) (fun s H C cl fp => (de_call C_slip_in hr hgd passL rfl (da_cons (de_var 3) da_nil))))) (de_lst da_nil)) sc_house_in.nd) (ds_cons (ds_if (DW.toDB (dw_or (db_in hr de_non (de_var 2)) (dw_or1 (db_gt (de_len rfl G.g_len (da_cons (de_var 2) da_nil)) (de_globI rfl hu_MAX_SLIPS hr_MAX_SLIPS))))) (ds_one (ds_ret de_non)) ds_nil) (ds_one (ds_ret (de_tup (da_cons (de_call C_number_in hr hgd passD rfl (da_cons (de_ix (de_var 1) de_int) da_nil)) (da_cons (de_tuple rfl G.g_tuple (da_cons (de_var 2) da_nil)) da_nil)))))))))) law
abbrev N_words_of : List Str := ["value"]
theorem sc_words_of : FnScope N_words_of ["value"] (defScope s_words_of) := ⟨rfl, rfl, rfl, by decide +kernel, rfl, by decide +kernel, by decide +kernel⟩
def d_words_of_1 : DS_ := (dRet (dFrz (dSplitN (dVar 0) (dC (.st " ")))))
def r_words_of_1 : DS_ := d_words_of_1
def d_words_of_0 : DS_ := (dIfS (dNot (dTst (dIsi "str" (dVar 0)))) (dRaise1 "BadText" "index" (dC .non)) dNext)
def r_words_of_0 : DS_ := dSeq d_words_of_0 r_words_of_1
def d_words_of : DS_ := r_words_of_0
theorem w_words_of {f : Addr} {fd : FuncData} {k : Nat} (F : Fun K "words_of" "words_of" s_words_of f fd) (G : Gs K mg) (hsys : ∃ o, base.get? sysModules = some o)
    (len : ∀ ds Q E, sp_words_of ds Q E → ds.length = 1) (law : ∀ ds Q E, sp_words_of ds Q E → d_words_of { nx := fun _ => Q .non, rt := Q, ex := E } (dstart 1 ds)) : GFn P w K mg base (k + 1) f fd ["value"] sp_words_of := by
  obtain ⟨XC_BadText, XI_BadText, xg_BadText, xt_BadText⟩ := G.r_BadText
  exact gfn_mk F sc_words_of len (fun cdv A outer s H E hr hgd => (ds_cons (ds_if (db_not (db_val (de_isi rfl G.g_isinstance rfl G.g_str (by decide +kernel) kit_str (de_var 0)))) (ds_one (ds_raise_index rfl tkD xt_BadText xg_BadText hr de_non rfl)) ds_nil) (ds_one (ds_ret (DN.toDE (dn_split (de_var 0) de_str)))))) law
abbrev N_parse_book : List Str := ["value", "found", "index", "word", "house", "purse", "pile", "to", "amount"]
theorem sc_parse_book : FnScope N_parse_book ["value"] (defScope s_parse_book) := ⟨rfl, rfl, rfl, by decide +kernel, rfl, by decide +kernel, by decide +kernel⟩
def d_parse_book_1b_2 : DS_ := (dApp 1 (dVar 4))
def r_parse_book_1b_2 : DS_ := d_parse_book_1b_2
def d_parse_book_1b_1 : DS_ := (dIfS (dOr (dTst (dIsN (dVar 4))) (dTst (dOp oGe (dVar 2) (dC (.it 6))))) (dRaise1 "BadText" "index" (dVar 2)) dNext)
def r_parse_book_1b_1 : DS_ := dSeq d_parse_book_1b_1 r_parse_book_1b_2
def d_parse_book_1b_0 : DS_ := (dSet 4 (dCall sp_house_in (dCons (dVar 3) dNil)))
def r_parse_book_1b_0 : DS_ := dSeq d_parse_book_1b_0 r_parse_book_1b_1
def d_parse_book_3 : DS_ := (dRet (dCB oTuple (dCons (dVar 1) dNil)))
def r_parse_book_3 : DS_ := d_parse_book_3
def d_parse_book_2 : DS_ := (dFrzS 1 (dFor (dEnum (dCons (dVar 1) dNil)) (dgTup 2 (dgCons (dgName 2) (dgCons (dgTup 2 (dgCons (dgName 5) (dgCons (dgName 6) dgNil))) dgNil))) (dIfS (dTst (dCB oAny (dCons (dFrz (dLc (dSeqI (dVar 6)) (dgTup 2 (dgCons (dgName 7) (dgCons (dgName 8) dgNil))) dYes (dOrV (dOp oEq (dVar 7) (dVar 2)) (dOp oGe (dVar 7) (dCB oLen (dCons (dVar 1) dNil)))) [7, 8])) dNil))) (dRaise1 "BadText" "index" (dVar 2)) dNext)))
def r_parse_book_2 : DS_ := dSeq d_parse_book_2 r_parse_book_3
def d_parse_book_1 : DS_ := (dFor (dEnum (dCons (dCall sp_words_of (dCons (dVar 0) dNil)) dNil)) (dgTup 2 (dgCons (dgName 2) (dgCons (dgName 3) dgNil))) r_parse_book_1b_0)
def r_parse_book_1 : DS_ := dSeq d_parse_book_1 r_parse_book_2
def d_parse_book_0 : DS_ := (dSetO 1 (dLstN dNil))
def r_parse_book_0 : DS_ := dSeq d_parse_book_0 r_parse_book_1
def d_parse_book : DS_ := r_parse_book_0
theorem w_parse_book {f : Addr} {fd : FuncData} {k : Nat} (F : Fun K "parse_book" "parse_book" s_parse_book f fd) (G : Gs K mg) (hsys : ∃ o, base.get? sysModules = some o) (C_house_in : Cal P w K mg base k "house_in" ["word"] sp_house_in) (C_words_of : Cal P w K mg base k "words_of" ["value"] sp_words_of)
    (len : ∀ ds Q E, sp_parse_book ds Q E → ds.length = 1) (law : ∀ ds Q E, sp_parse_book ds Q E → d_parse_book { nx := fun _ => Q .non, rt := Q, ex := E } (dstart 9 ds)) : GFn P w K mg base (k + 1) f fd ["value"] sp_parse_book := by
  obtain ⟨u_MAX_HOUSES, hu_MAX_HOUSES, hr_MAX_HOUSES⟩ := G.c_MAX_HOUSES
  obtain ⟨XC_BadText, XI_BadText, xg_BadText, xt_BadText⟩ := G.r_BadText
  exact gfn_mk F sc_parse_book len (fun cdv A outer s H E hr hgd => (ds_cons (ds_setO 1 (dn_lst da_nil) sc_parse_book.nd) (ds_cons (ds_for (passes_of rfl) rfl (di_enum rfl G.g_enumerate (da_cons (de_call C_words_of hr hgd passD rfl (da_cons (de_var 0) da_nil)) da_nil)) (dg_tup (n := 2) rfl (dgs_cons (dg_name 2 sc_parse_book.nd) (dgs_cons (dg_name 3 sc_parse_book.nd) dgs_nil))) (ds_cons (ds_set 4 (de_call C_house_in hr hgd passD rfl (da_cons (de_var 3) da_nil)) sc_parse_book.nd) (ds_cons (ds_if (DW.toDB (dw_or (db_isN (de_var 4)) (dw_or1 (db_ge (de_var 2) (de_globI rfl hu_MAX_HOUSES hr_MAX_HOUSES))))) (ds_one (ds_raise_index rfl tkD xt_BadText xg_BadText hr (de_var 2) rfl)) ds_nil) (ds_one (ds_append 1 (de_var 4)))))) (ds_cons (ds_frz 1 (ds_for (passes_of rfl) rfl (di_enum rfl G.g_enumerate (da_cons (de_var 1) da_nil)) (dg_tup (n := 2) rfl (dgs_cons (dg_name 2 sc_parse_book.nd) (dgs_cons (dg_tup (n := 2) rfl (dgs_cons (dg_name 5 sc_parse_book.nd) (dgs_cons (dg_name 6 sc_parse_book.nd) dgs_nil))) dgs_nil))) (ds_one (ds_if (db_val (de_any rfl rfl G.g_any (da_cons (DN.toDE (dn_lc rfl sc_parse_book.nd (di_seq (de_var 6)) (own := [("to", 7), ("amount", 8)]) (blkOk_by (by show blkC N_parse_book (defScope s_parse_book) _ _ = true; decide +kernel)) (vsg := [7, 8]) (by decide) (fun s H C cl fp => (dg_tup (n := 2) rfl (dgs_cons (dg_name 7 sc_parse_book.nd) (dgs_cons (dg_name 8 sc_parse_book.nd) dgs_nil)))) (fun s H C cl fp => dts_nil) (fun s H C cl fp => (de_or (de_eq hr (de_var 7) (de_var 2)) (de_one (de_ge (de_var 7) (de_len rfl G.g_len (da_cons (de_var 1) da_nil)))))))) da_nil))) (ds_one (ds_raise_index rfl tkD xt_BadText xg_BadText hr (de_var 2) rfl)) ds_nil)))) (ds_one (ds_ret (de_tuple rfl G.g_tuple (da_cons (de_var 1) da_nil)))))))) law
abbrev N_parse_payments : List Str := ["book", "value", "words", "limits", "found", "index", "word"]
theorem sc_parse_payments : FnScope N_parse_payments ["book", "value"] (defScope s_parse_payments) := ⟨rfl, rfl, rfl, by decide +kernel, rfl, by decide +kernel, by decide +kernel⟩
def d_parse_payments_2b_1 : DS_ := (dApp 4 (dCall sp_number_in (dCons (dVar 6) dNil)))
def r_parse_payments_2b_1 : DS_ := d_parse_payments_2b_1
def d_parse_payments_2b_0 : DS_ := (dIfS (dOr (dTst (dOp oGe (dVar 5) (dCB oLen (dCons (dVar 3) dNil)))) (dNot (dTst (dCall sp_is_integer (dCons (dCall sp_number_in (dCons (dVar 6) dNil)) (dCons (dC (.it 0)) (dCons (dOp oIx (dVar 3) (dVar 5)) dNil))))))) (dRaise1 "BadText" "index" (dVar 5)) dNext)
def r_parse_payments_2b_0 : DS_ := dSeq d_parse_payments_2b_0 r_parse_payments_2b_1
def d_parse_payments_4 : DS_ := (dFrzS 4 (dRet (dCB oTuple (dCons (dVar 4) dNil))))
def r_parse_payments_4 : DS_ := d_parse_payments_4
def d_parse_payments_3 : DS_ := (dIfS (dTst (dOp oLt (dLend 4 (dCB oLen (dCons (dVar 4) dNil))) (dCB oLen (dCons (dVar 3) dNil)))) (dRaise1 "BadText" "index" (dLend 4 (dCB oLen (dCons (dVar 4) dNil)))) dNext)
def r_parse_payments_3 : DS_ := dSeq d_parse_payments_3 r_parse_payments_4
def d_parse_payments_2 : DS_ := (dFor (dEnum (dCons (dVar 2) dNil)) (dgTup 2 (dgCons (dgName 5) (dgCons (dgName 6) dgNil))) r_parse_payments_2b_0)
def r_parse_payments_2 : DS_ := dSeq d_parse_payments_2 r_parse_payments_3
def d_parse_payments_1 : DS_ := (dSetO 4 (dLstN dNil))
def r_parse_payments_1 : DS_ := dSeq d_parse_payments_1 r_parse_payments_2
def d_parse_payments_0 : DS_ := (dPar 2 3 (dCons (dCall sp_words_of (dCons (dVar 1) dNil)) (dCons (dCall sp_debts (dCons (dVar 0) dNil)) dNil)))
def r_parse_payments_0 : DS_ := dSeq d_parse_payments_0 r_parse_payments_1
def d_parse_payments : DS_ := r_parse_payments_0
theorem w_parse_payments {f : Addr} {fd : FuncData} {k : Nat} (F : Fun K "parse_payments" "parse_payments" s_parse_payments f fd) (G : Gs K mg) (hsys : ∃ o, base.get? sysModules = some o) (C_debts : Cal P w K mg base k "debts" ["book"] sp_debts) (C_is_integer : Cal P w K mg base k "is_integer" ["value", "low", "high"] sp_is_integer) (C_number_in : Cal P w K mg base k "number_in" ["word"] sp_number_in) (C_words_of : Cal P w K mg base k "words_of" ["value"] sp_words_of)
    (len : ∀ ds Q E, sp_parse_payments ds Q E → ds.length = 2) (law : ∀ ds Q E, sp_parse_payments ds Q E → d_parse_payments { nx := fun _ => Q .non, rt := Q, ex := E } (dstart 7 ds)) : GFn P w K mg base (k + 1) f fd ["book", "value"] sp_parse_payments := by
  obtain ⟨XC_BadText, XI_BadText, xg_BadText, xt_BadText⟩ := G.r_BadText
  exact gfn_mk F sc_parse_payments len (fun cdv A outer s H E hr hgd => (ds_cons (ds_par (i := 2) (j := 3) rfl sc_parse_payments.nd (da_cons (de_call C_words_of hr hgd passD rfl (da_cons (de_var 1) da_nil)) (da_cons (de_call C_debts hr hgd passD rfl (da_cons (de_var 0) da_nil)) da_nil)) rfl) (ds_cons (ds_setO 4 (dn_lst da_nil) sc_parse_payments.nd) (ds_cons (ds_for (passes_of rfl) rfl (di_enum rfl G.g_enumerate (da_cons (de_var 2) da_nil)) (dg_tup (n := 2) rfl (dgs_cons (dg_name 5 sc_parse_payments.nd) (dgs_cons (dg_name 6 sc_parse_payments.nd) dgs_nil))) (ds_cons (ds_if (DW.toDB (dw_or (db_ge (de_var 5) (de_len rfl G.g_len (da_cons (de_var 3) da_nil))) (dw_or1 (db_not (db_val (de_call C_is_integer hr hgd passD rfl (da_cons (de_call C_number_in hr hgd passD rfl (da_cons (de_var 6) da_nil)) (da_cons de_int (da_cons (de_ix (de_var 3) (de_var 5)) da_nil))))))))) (ds_one (ds_raise_index rfl tkD xt_BadText xg_BadText hr (de_var 5) rfl)) ds_nil) (ds_one (ds_append 4 (de_call C_number_in hr hgd passD rfl (da_cons (de_var 6) da_nil)))))) (ds_cons (ds_if (db_lt (de_lend 4 (de_len rfl G.g_len (da_cons (de_var 4) da_nil))) (de_len rfl G.g_len (da_cons (de_var 3) da_nil))) (ds_one (ds_raise_index rfl tkD xt_BadText xg_BadText hr (de_lend 4 (de_len rfl G.g_len (da_cons (de_var 4) da_nil))) rfl)) ds_nil) (ds_one (ds_frz 4 (ds_ret (de_tuple rfl G.g_tuple (da_cons (de_var 4) da_nil)))))))))) law
abbrev N__law_one : List Str := ["_law_box", "_law_items"]
theorem sc__law_one : FnScope N__law_one ["_law_box", "_law_items"] (defScope s__law_one) := ⟨rfl, rfl, rfl, by decide +kernel, rfl, by decide +kernel, by decide +kernel⟩
def d__law_one_0 : DS_ := (dRet (dOp oIx (dVar 1) (dCall sp__law_draw (dCons (dVar 0) (dCons (dCB oLen (dCons (dVar 1) dNil)) dNil)))))
def r__law_one_0 : DS_ := d__law_one_0
def d__law_one : DS_ := r__law_one_0
theorem w__law_one {f : Addr} {fd : FuncData} {k : Nat} (F : Fun K "_law_one" "_law_one" s__law_one f fd) (G : Gs K mg) (hsys : ∃ o, base.get? sysModules = some o) (C__law_draw : Cal P w K mg base k "_law_draw" ["_law_box", "_law_many"] sp__law_draw)
    (len : ∀ ds Q E, sp__law_one ds Q E → ds.length = 2) (law : ∀ ds Q E, sp__law_one ds Q E → d__law_one { nx := fun _ => Q .non, rt := Q, ex := E } (dstart 2 ds)) : GFn P w K mg base (k + 1) f fd ["_law_box", "_law_items"] sp__law_one := by
  exact gfn_mk F sc__law_one len (fun cdv A outer s H E hr hgd => (ds_one (ds_ret (de_ix (de_var 1) (de_call C__law_draw hr hgd passD rfl (da_cons (de_var 0) (da_cons (de_len rfl G.g_len (da_cons (de_var 1) da_nil)) da_nil))))))) law
abbrev N__law_odd : List Str := ["_law_box", "_law_some"]
theorem sc__law_odd : FnScope N__law_odd ["_law_box"] (defScope s__law_odd) := ⟨rfl, rfl, rfl, by decide +kernel, rfl, by decide +kernel, by decide +kernel⟩
def d__law_odd_2 : DS_ := (dRet (dCall sp__law_one (dCons (dVar 0) (dCons (dVar 1) dNil))))
def r__law_odd_2 : DS_ := d__law_odd_2
def d__law_odd_1 : DS_ := (dSet 1 (dOp oAdd (dVar 1) (dLst (dCons (dTup (dCons (dC (.it 1)) (dCons (dC (.it 4)) dNil))) (dCons (dTup (dCons (dC (.it 0)) (dCons (dTup dNil) dNil))) (dCons (dLst dNil) (dCons (dLst (dCons (dC (.it 0)) dNil)) (dCons dDic0 (dCons (dDic1 "a" (dC (.it 1))) (dCons (dTup (dCons (dTup (dCons (dC (.it 0)) (dCons (dTup dNil) dNil))) dNil)) (dCons (dTup (dCons (dC (.it 1)) (dCons (dC (.it 0)) dNil))) (dCons (dTup (dCons (dC (.bl true)) (dCons (dC (.it 4)) dNil))) (dCons (dTup (dCons (dTup (dCons (dC (.it 1)) (dCons (dC (.it 4)) dNil))) dNil)) (dCons (dC (.st "5:")) dNil))))))))))))))
def r__law_odd_1 : DS_ := dSeq d__law_odd_1 r__law_odd_2
def d__law_odd_0 : DS_ := (dSet 1 (dLst (dCons (dC .non) (dCons (dC (.bl true)) (dCons (dC (.bl false)) (dCons (dNeg (dC (.it 1))) (dCons (dC (.it 0)) (dCons (dC (.it 1)) (dCons (dC (.it 5)) (dCons (dC (.it 6)) (dCons (dOp oPow (dC (.it 10)) (dC (.it 9))) (dCons (dOp oAdd (dOp oPow (dC (.it 10)) (dC (.it 9))) (dC (.it 1))) (dCons (dOp oAdd (dOp oPow (dC (.it 10)) (dC (.it 12))) (dC (.it 1))) (dCons (dOp oPow (dC (.it 10)) (dC (.it 39))) (dCons (dC (.st "")) (dCons (dC (.st "0")) (dCons (dC (.st "1-4")) (dCons (dTup dNil) (dCons (dTup (dCons (dC (.it 0)) dNil)) dNil)))))))))))))))))))
def r__law_odd_0 : DS_ := dSeq d__law_odd_0 r__law_odd_1
def d__law_odd : DS_ := r__law_odd_0
theorem w__law_odd {f : Addr} {fd : FuncData} {k : Nat} (F : Fun K "_law_odd" "_law_odd" s__law_odd f fd) (G : Gs K mg) (hsys : ∃ o, base.get? sysModules = some o) (C__law_one : Cal P w K mg base k "_law_one" ["_law_box", "_law_items"] sp__law_one)
    (len : ∀ ds Q E, sp__law_odd ds Q E → ds.length = 1) (law : ∀ ds Q E, sp__law_odd ds Q E → d__law_odd { nx := fun _ => Q .non, rt := Q, ex := E } (dstart 2 ds)) : GFn P w K mg base (k + 1) f fd ["_law_box"] sp__law_odd := by
  exact gfn_mk F sc__law_odd len (fun cdv A outer s H E hr hgd => (ds_cons (ds_set 1 (de_lst (da_cons de_non (da_cons de_bl (da_cons de_bl (da_cons (de_neg de_int) (da_cons de_int (da_cons de_int (da_cons de_int (da_cons de_int (da_cons (de_pow de_int de_int) (da_cons (de_add (de_pow de_int de_int) de_int) (da_cons (de_add (de_pow de_int de_int) de_int) (da_cons (de_pow de_int de_int) (da_cons de_str (da_cons de_str (da_cons de_str (da_cons (de_tup da_nil) (da_cons (de_tup (da_cons de_int da_nil)) da_nil)))))))))))))))))) sc__law_odd.nd) (ds_cons (ds_set 1 (de_add (de_var 1) (de_lst (da_cons (de_tup (da_cons de_int (da_cons de_int da_nil))) (da_cons (de_tup (da_cons de_int (da_cons (de_tup da_nil) da_nil))) (da_cons (de_lst da_nil) (da_cons (de_lst (da_cons de_int da_nil)) (da_cons de_dic0 (da_cons (de_dic1 de_int) (da_cons (de_tup (da_cons (de_tup (da_cons de_int (da_cons (de_tup da_nil) da_nil))) da_nil)) (da_cons (de_tup (da_cons de_int (da_cons de_int da_nil))) (da_cons (de_tup (da_cons de_bl (da_cons de_int da_nil))) (da_cons (de_tup (da_cons (de_tup (da_cons de_int (da_cons de_int da_nil))) da_nil)) (da_cons de_str da_nil))))))))))))) sc__law_odd.nd) (ds_one (ds_ret (de_call C__law_one hr hgd passD rfl (da_cons (de_var 0) (da_cons (de_var 1) da_nil)))))))) law
abbrev N__law_pile : List Str := ["_law_box", "_law_own", "_law_many", "_law_size", "_law_wide", "_law_found", "_law_k", "_law_to"]
theorem sc__law_pile : FnScope N__law_pile ["_law_box", "_law_own", "_law_many", "_law_size", "_law_wide"] (defScope s__law_pile) := ⟨rfl, rfl, rfl, by decide +kernel, rfl, by decide +kernel, by decide +kernel⟩
def d__law_pile_1b_1 : DS_ := (dApp 5 (dTup (dCons (dVar 7) (dCons (dOp oAdd (dC (.it 1)) (dCall sp__law_draw (dCons (dVar 0) (dCons (dVar 4) dNil)))) dNil))))
def r__law_pile_1b_1 : DS_ := d__law_pile_1b_1
def d__law_pile_1b_0 : DS_ := (dSet 7 (dOp oMod (dOp oAdd (dOp oAdd (dVar 1) (dC (.it 1))) (dCall sp__law_one (dCons (dVar 0) (dCons (dLst (dCons (dC (.it 0)) (dCons (dCall sp__law_draw (dCons (dVar 0) (dCons (dOp oSub (dVar 2) (dC (.it 1))) dNil))) dNil))) dNil)))) (dVar 2)))
def r__law_pile_1b_0 : DS_ := dSeq d__law_pile_1b_0 r__law_pile_1b_1
def d__law_pile_2 : DS_ := (dFrzS 5 (dRet (dCB oTuple (dCons (dVar 5) dNil))))
def r__law_pile_2 : DS_ := d__law_pile_2
def d__law_pile_1 : DS_ := (dFor (dRng1 (dCons (dOp oMulA (dCall sp__law_draw (dCons (dVar 0) (dCons (dOp oAdd (dVar 3) (dC (.it 1))) dNil))) (dCB oInt (dCons (dOp oGt (dVar 2) (dC (.it 1))) dNil))) dNil)) (dgName 6) r__law_pile_1b_0)
def r__law_pile_1 : DS_ := dSeq d__law_pile_1 r__law_pile_2
def d__law_pile_0 : DS_ := (dSetO 5 (dLstN dNil))
def r__law_pile_0 : DS_ := dSeq d__law_pile_0 r__law_pile_1
def d__law_pile : DS_ := r__law_pile_0
theorem w__law_pile {f : Addr} {fd : FuncData} {k : Nat} (F : Fun K "_law_pile" "_law_pile" s__law_pile f fd) (G : Gs K mg) (hsys : ∃ o, base.get? sysModules = some o) (C__law_draw : Cal P w K mg base k "_law_draw" ["_law_box", "_law_many"] sp__law_draw) (C__law_one : Cal P w K mg base k "_law_one" ["_law_box", "_law_items"] sp__law_one)
    (len : ∀ ds Q E, sp__law_pile ds Q E → ds.length = 5) (law : ∀ ds Q E, sp__law_pile ds Q E → d__law_pile { nx := fun _ => Q .non, rt := Q, ex := E } (dstart 8 ds)) : GFn P w K mg base (k + 1) f fd ["_law_box", "_law_own", "_law_many", "_law_size", "_law_wide"] sp__law_pile := by
  exact gfn_mk F sc__law_pile len (fun cdv A outer s H E hr hgd => (ds_cons (ds_setO 5 (dn_lst da_nil) sc__law_pile.nd) (ds_cons (ds_for (passes_of rfl) rfl (di_range1 rfl G.g_range (da_cons (de_mulA (de_call C__law_draw hr hgd passD rfl (da_cons (de_var 0) (da_cons (de_add (de_var 3) de_int) da_nil))) (de_int1 rfl G.g_int (da_cons (de_gt (de_var 2) de_int) da_nil))) da_nil)) (dg_name 6 sc__law_pile.nd) (ds_cons (ds_set 7 (de_mod (de_add (de_add (de_var 1) de_int) (de_call C__law_one hr hgd passD rfl (da_cons (de_var 0) (da_cons (de_lst (da_cons de_int (da_cons (de_call C__law_draw hr hgd passD rfl (da_cons (de_var 0) (da_cons (de_sub (de_var 2) de_int) da_nil))) da_nil))) da_nil)))) (de_var 2)) sc__law_pile.nd) (ds_one (ds_append 5 (de_tup (da_cons (de_var 7) (da_cons (de_add de_int (de_call C__law_draw hr hgd passD rfl (da_cons (de_var 0) (da_cons (de_var 4) da_nil)))) da_nil))))))) (ds_one (ds_frz 5 (ds_ret (de_tuple rfl G.g_tuple (da_cons (de_var 5) da_nil)))))))) law
abbrev N__law_book : List Str := ["_law_box", "_law_most", "_law_size", "_law_wide", "_law_many", "_law_purses", "_law_k"]
theorem sc__law_book : FnScope N__law_book ["_law_box", "_law_most", "_law_size", "_law_wide"] (defScope s__law_book) := ⟨rfl, rfl, rfl, by decide +kernel, rfl, by decide +kernel, by decide +kernel⟩
def d__law_book_2 : DS_ := (dRet (dCB oTuple (dCons (dFrz (dLc (dRng1 (dCons (dVar 4) dNil)) (dgName 6) dYes (dTup (dCons (dOp oIx (dVar 5) (dVar 6)) (dCons (dCall sp__law_pile (dCons (dVar 0) (dCons (dVar 6) (dCons (dVar 4) (dCons (dVar 2) (dCons (dVar 3) dNil)))))) dNil))) [6])) dNil)))
def r__law_book_2 : DS_ := d__law_book_2
def d__law_book_1 : DS_ := (dSetN 5 (dLc (dRng1 (dCons (dVar 4) dNil)) (dgName 6) dYes (dCall sp__law_one (dCons (dVar 0) (dCons (dLst (dCons (dC (.it 0)) (dCons (dC (.it 0)) (dCons (dCall sp__law_draw (dCons (dVar 0) (dCons (dOp oAdd (dVar 3) (dC (.it 1))) dNil))) dNil)))) dNil))) [6]))
def r__law_book_1 : DS_ := dSeq d__law_book_1 r__law_book_2
def d__law_book_0 : DS_ := (dSet 4 (dOp oAdd (dC (.it 1)) (dCall sp__law_draw (dCons (dVar 0) (dCons (dVar 1) dNil)))))
def r__law_book_0 : DS_ := dSeq d__law_book_0 r__law_book_1
def d__law_book : DS_ := r__law_book_0
theorem w__law_book {f : Addr} {fd : FuncData} {k : Nat} (F : Fun K "_law_book" "_law_book" s__law_book f fd) (G : Gs K mg) (hsys : ∃ o, base.get? sysModules = some o) (C__law_draw : Cal P w K mg base k "_law_draw" ["_law_box", "_law_many"] sp__law_draw) (C__law_one : Cal P w K mg base k "_law_one" ["_law_box", "_law_items"] sp__law_one) (C__law_pile : Cal P w K mg base k "_law_pile" ["_law_box", "_law_own", "_law_many", "_law_size", "_law_wide"] sp__law_pile)
    (len : ∀ ds Q E, sp__law_book ds Q E → ds.length = 4) (law : ∀ ds Q E, sp__law_book ds Q E → d__law_book { nx := fun _ => Q .non, rt := Q, ex := E } (dstart 7 ds)) : GFn P w K mg base (k + 1) f fd ["_law_box", "_law_most", "_law_size", "_law_wide"] sp__law_book := by
  exact gfn_mk F sc__law_book len (fun cdv A outer s H E hr hgd => (ds_cons (ds_set 4 (de_add de_int (de_call C__law_draw hr hgd passD rfl (da_cons (de_var 0) (da_cons (de_var 1) da_nil)))) sc__law_book.nd) (ds_cons (ds_setN 5 (dn_lc rfl sc__law_book.nd (di_range1 rfl G.g_range (da_cons (de_var 4) da_nil)) (own := [("_law_k", 6)]) (blkOk_by (by show blkC N__law_book (defScope s__law_book) _ _ = true; decide +kernel)) (vsg := [6]) (by decide) (fun s H C cl fp => (dg_name 6 sc__law_book.nd)) (fun s H C cl fp => dts_nil) (fun s H C cl fp => (de_call C__law_one hr hgd passL rfl (da_cons (de_var 0) (da_cons (de_lst (da_cons de_int (da_cons de_int (da_cons (de_call C__law_draw hr hgd passL rfl (da_cons (de_var 0) (da_cons (de_add (de_var 3) de_int) da_nil))) da_nil)))) da_nil))))) sc__law_book.nd) (ds_one (ds_ret (de_tuple rfl G.g_tuple (da_cons (DN.toDE (dn_lc rfl sc__law_book.nd (di_range1 rfl G.g_range (da_cons (de_var 4) da_nil)) (own := [("_law_k", 6)]) (blkOk_by (by show blkC N__law_book (defScope s__law_book) _ _ = true; decide +kernel)) (vsg := [6]) (by decide) (fun s H C cl fp => (dg_name 6 sc__law_book.nd)) (fun s H C cl fp => dts_nil) (fun s H C cl fp => (de_tup (da_cons (de_ix (de_var 5) (de_var 6)) (da_cons (de_call C__law_pile hr hgd passL rfl (da_cons (de_var 0) (da_cons (de_var 6) (da_cons (de_var 4) (da_cons (de_var 2) (da_cons (de_var 3) da_nil)))))) da_nil)))))) da_nil))))))) law
abbrev N__law_debts : List Str := ["_law_book_here", "_law_purse", "_law_pile_here", "_law_to", "_law_amount"]
theorem sc__law_debts : FnScope N__law_debts ["_law_book_here"] (defScope s__law_debts) := ⟨rfl, rfl, rfl, by decide +kernel, rfl, by decide +kernel, by decide +kernel⟩
def d__law_debts_0 : DS_ := (dRet (dFrz (dLc (dSeqI (dVar 0)) (dgTup 2 (dgCons (dgName 1) (dgCons (dgName 2) dgNil))) dYes (dCB oSumA (dCons (dFrz (dLc (dSeqI (dVar 2)) (dgTup 2 (dgCons (dgName 3) (dgCons (dgName 4) dgNil))) dYes (dVar 4) [3, 4])) dNil)) [1, 2])))
def r__law_debts_0 : DS_ := d__law_debts_0
def d__law_debts : DS_ := r__law_debts_0
theorem w__law_debts {f : Addr} {fd : FuncData} {k : Nat} (F : Fun K "_law_debts" "_law_debts" s__law_debts f fd) (G : Gs K mg) (hsys : ∃ o, base.get? sysModules = some o)
    (len : ∀ ds Q E, sp__law_debts ds Q E → ds.length = 1) (law : ∀ ds Q E, sp__law_debts ds Q E → d__law_debts { nx := fun _ => Q .non, rt := Q, ex := E } (dstart 5 ds)) : GFn P w K mg base (k + 1) f fd ["_law_book_here"] sp__law_debts := by
  exact gfn_mk F sc__law_debts len (fun cdv A outer s H E hr hgd => (ds_one (ds_ret (DN.toDE (dn_lc rfl sc__law_debts.nd (di_seq (de_var 0)) (own := [("_law_purse", 1), ("_law_pile_here", 2)]) (blkOk_by (by show blkC N__law_debts (defScope s__law_debts) _ _ = true; decide +kernel)) (vsg := [1, 2]) (by decide) (fun s H C cl fp => (dg_tup (n := 2) rfl (dgs_cons (dg_name 1 sc__law_debts.nd) (dgs_cons (dg_name 2 sc__law_debts.nd) dgs_nil)))) (fun s H C cl fp => dts_nil) (fun s H C cl fp => (de_sumA rfl rfl G.g_sum (da_cons (DN.toDE (dn_lc rfl sc__law_debts.nd (di_seq (de_var 2)) (own := [("_law_to", 3), ("_law_amount", 4)]) (blkOk_by (by with_unfolding_all rfl)) (vsg := [3, 4]) (by decide) (fun s H C cl fp => (dg_tup (n := 2) rfl (dgs_cons (dg_name 3 sc__law_debts.nd) (dgs_cons (dg_name 4 sc__law_debts.nd) dgs_nil)))) (fun s H C cl fp => dts_nil) (fun s H C cl fp => (de_var 4)))) da_nil)))))))) law
abbrev N__law_payments : List Str := ["_law_box", "_law_book_here", "_law_found", "_law_purse", "_law_pile_here", "_law_ends", "_law_some", "_law_k", "_law_to", "_law_amount"]
theorem sc__law_payments : FnScope N__law_payments ["_law_box", "_law_book_here"] (defScope s__law_payments) := ⟨rfl, rfl, rfl, by decide +kernel, rfl, by decide +kernel, by decide +kernel⟩
def d__law_payments_1b_2 : DS_ := (dApp 2 (dCB oMinA (dCons (dCB oMaxA (dCons (dC (.it 0)) (dCons (dCall sp__law_one (dCons (dVar 0) (dCons (dVar 6) dNil))) dNil))) (dCons (dOp oIx (dVar 5) (dNeg (dC (.it 1)))) dNil))))
def r__law_payments_1b_2 : DS_ := d__law_payments_1b_2
def d__law_payments_1b_1 : DS_ := (dSet 6 (dLst (dCons (dCall sp__law_one (dCons (dVar 0) (dCons (dVar 5) dNil))) (dCons (dOp oAdd (dCall sp__law_one (dCons (dVar 0) (dCons (dVar 5) dNil))) (dC (.it 1))) (dCons (dOp oSub (dCall sp__law_one (dCons (dVar 0) (dCons (dVar 5) dNil))) (dC (.it 1))) (dCons (dCall sp__law_draw (dCons (dVar 0) (dCons (dOp oAdd (dOp oIx (dVar 5) (dNeg (dC (.it 1)))) (dC (.it 1))) dNil))) dNil))))))
def r__law_payments_1b_1 : DS_ := dSeq d__law_payments_1b_1 r__law_payments_1b_2
def d__law_payments_1b_0 : DS_ := (dSet 5 (dOp oAdd (dLst (dCons (dC (.it 0)) dNil)) (dFrz (dLc (dRng1 (dCons (dCB oLen (dCons (dVar 4) dNil)) dNil)) (dgName 7) dYes (dCB oSumA (dCons (dFrz (dLc (dSeqI (dSl (dVar 4) dNoPart (dPart (dOp oAdd (dVar 7) (dC (.it 1)))))) (dgTup 2 (dgCons (dgName 8) (dgCons (dgName 9) dgNil))) dYes (dVar 9) [8, 9])) dNil)) [7]))))
def r__law_payments_1b_0 : DS_ := dSeq d__law_payments_1b_0 r__law_payments_1b_1
def d__law_payments_2 : DS_ := (dFrzS 2 (dRet (dCB oTuple (dCons (dVar 2) dNil))))
def r__law_payments_2 : DS_ := d__law_payments_2
def d__law_payments_1 : DS_ := (dFor (dSeqI (dVar 1)) (dgTup 2 (dgCons (dgName 3) (dgCons (dgName 4) dgNil))) r__law_payments_1b_0)
def r__law_payments_1 : DS_ := dSeq d__law_payments_1 r__law_payments_2
def d__law_payments_0 : DS_ := (dSetO 2 (dLstN dNil))
def r__law_payments_0 : DS_ := dSeq d__law_payments_0 r__law_payments_1
def d__law_payments : DS_ := r__law_payments_0
theorem w__law_payments {f : Addr} {fd : FuncData} {k : Nat} (F : Fun K "_law_payments" "_law_payments" s__law_payments f fd) (G : Gs K mg) (hsys : ∃ o, base.get? sysModules = some o) (C__law_draw : Cal P w K mg base k "_law_draw" ["_law_box", "_law_many"] sp__law_draw) (C__law_one : Cal P w K mg base k "_law_one" ["_law_box", "_law_items"] sp__law_one)
    (len : ∀ ds Q E, sp__law_payments ds Q E → ds.length = 2) (law : ∀ ds Q E, sp__law_payments ds Q E → d__law_payments { nx := fun _ => Q .non, rt := Q, ex := E } (dstart 10 ds)) : GFn P w K mg base (k + 1) f fd ["_law_box", "_law_book_here"] sp__law_payments := by
  exact gfn_mk F sc__law_payments len (fun cdv A outer s H E hr hgd => (ds_cons (ds_setO 2 (dn_lst da_nil) sc__law_payments.nd) (ds_cons (ds_for (passes_of rfl) rfl (di_seq (de_var 1)) (dg_tup (n := 2) rfl (dgs_cons (dg_name 3 sc__law_payments.nd) (dgs_cons (dg_name 4 sc__law_payments.nd) dgs_nil))) (ds_cons (ds_set 5 (de_add (de_lst (da_cons de_int da_nil)) (DN.toDE (dn_lc rfl sc__law_payments.nd (di_range1 rfl G.g_range (da_cons (de_len rfl G.g_len (da_cons (de_var 4) da_nil)) da_nil)) (own := [("_law_k", 7)]) (blkOk_by (by show blkC N__law_payments (defScope s__law_payments) _ _ = true; decide +kernel)) (vsg := [7]) (by decide) (fun s H C cl fp => (dg_name 7 sc__law_payments.nd)) (fun s H C cl fp => dts_nil) (fun s H C cl fp => (de_sumA rfl rfl G.g_sum (da_cons (DN.toDE (dn_lc rfl sc__law_payments.nd (di_seq (de_slice (de_var 4) do_none (do_some (de_add (de_var 7) de_int)))) (own := [("_law_to", 8), ("_law_amount", 9)]) (blkOk_by (by with_unfolding_all rfl)) (vsg := [8, 9]) (by decide) (fun s H C cl fp => (dg_tup (n := 2) rfl (dgs_cons (dg_name 8 sc__law_payments.nd) (dgs_cons (dg_name 9 sc__law_payments.nd) dgs_nil)))) (fun s H C cl fp => dts_nil) (fun s H C cl fp => (de_var 9)))) da_nil)))))) sc__law_payments.nd) (ds_cons (ds_set 6 (de_lst (da_cons (de_call C__law_one hr hgd passD rfl (da_cons (de_var 0) (da_cons (de_var 5) da_nil))) (da_cons (de_add (de_call C__law_one hr hgd passD rfl (da_cons (de_var 0) (da_cons (de_var 5) da_nil))) de_int) (da_cons (de_sub (de_call C__law_one hr hgd passD rfl (da_cons (de_var 0) (da_cons (de_var 5) da_nil))) de_int) (da_cons (de_call C__law_draw hr hgd passD rfl (da_cons (de_var 0) (da_cons (de_add (de_ix (de_var 5) (de_neg de_int)) de_int) da_nil))) da_nil))))) sc__law_payments.nd) (ds_one (ds_append 2 (de_minA rfl rfl G.g_min (da_cons (de_maxA rfl rfl G.g_max (da_cons de_int (da_cons (de_call C__law_one hr hgd passD rfl (da_cons (de_var 0) (da_cons (de_var 6) da_nil))) da_nil))) (da_cons (de_ix (de_var 5) (de_neg de_int)) da_nil)))))))) (ds_one (ds_frz 2 (ds_ret (de_tuple rfl G.g_tuple (da_cons (de_var 2) da_nil)))))))) law
abbrev N__law_told : List Str := ["_law_book_here", "_law_value", "_law_found", "error", "_law_alone"]
theorem sc__law_told : FnScope N__law_told ["_law_book_here", "_law_value"] (defScope s__law_told) := ⟨rfl, rfl, rfl, by decide +kernel, rfl, by decide +kernel, by decide +kernel⟩
def d__law_told_2 : DS_ := (dRet (dVar 2))
def r__law_told_2 : DS_ := d__law_told_2
def d__law_told_1 : DS_ := (dTryS 2 3 xcs (dIfX (dTst (dIsN (dVar 0))) (dCallX (spUp sp_parse_book) (dCons (dVar 1) dNil)) (dCallX (spUp sp_parse_payments) (dCons (dVar 0) (dCons (dVar 1) dNil)))) (fun a dx x => (dSeq (dSet 4 (dAndV (dIsX 3 a dx x true) (dNotV (dIsX 3 a dx x (isx x.cls "BadBook" || (isx x.cls "NoAmount" || (isx x.cls "NoHouse" || (isx x.cls "NoIndex" || false)))))))) (dSet 2 (dIf (dAnd (dTst (dVar 4)) (dTst (dIsX 3 a dx x (isx x.cls "BadText")))) (dLst (dCons (dFld 3 a dx x "index") dNil)) (dLst (dCons (dC (.st "other")) dNil)))))))
def r__law_told_1 : DS_ := dSeq d__law_told_1 r__law_told_2
def d__law_told_0 : DS_ := (dSet 2 (dC .non))
def r__law_told_0 : DS_ := dSeq d__law_told_0 r__law_told_1
def d__law_told : DS_ := r__law_told_0
theorem w__law_told {f : Addr} {fd : FuncData} {k : Nat} (F : Fun K "_law_told" "_law_told" s__law_told f fd) (G : Gs K mg) (hsys : ∃ o, base.get? sysModules = some o) (C_parse_book : Cal P w K mg base k "parse_book" ["value"] sp_parse_book) (C_parse_payments : Cal P w K mg base k "parse_payments" ["book", "value"] sp_parse_payments)
    (len : ∀ ds Q E, sp__law_told ds Q E → ds.length = 2) (law : ∀ ds Q E, sp__law_told ds Q E → d__law_told { nx := fun _ => Q .non, rt := Q, ex := E } (dstart 5 ds)) : GFn P w K mg base (k + 1) f fd ["_law_book_here", "_law_value"] sp__law_told := by
  exact gfn_mk F sc__law_told len (fun cdv A outer s H E hr hgd => (ds_cons (ds_set 2 de_non sc__law_told.nd) (ds_cons (ds_tryS G.x_tab rfl rfl sc__law_told.nd rfl rfl rfl (by decide) (j := 2) rfl (by first | exact Or.inl rfl | exact Or.inr rfl) (by first | exact .inl rfl | exact .inr rfl) rfl (dx_if (fun pn xe => (db_isN (de_var 0))) (dx_call C_parse_book.up hr hgd rfl (fun pn xe => (da_cons (de_var 1) da_nil))) (dx_call C_parse_payments.up hr hgd rfl (fun pn xe => (da_cons (de_var 0) (da_cons (de_var 1) da_nil))))) (fun a oe C dx x pn cau => (ds_cons (ds_set 4 (de_and (de_isV cau 3 rfl (by first | exact Or.inl rfl | exact Or.inr (Or.inl rfl) | exact Or.inr (Or.inr rfl)) (by decide) (by decide) rfl G.g_isinstance rfl G.g_ValueError) (de_one (de_not (de_isT cau 3 rfl (by first | exact Or.inl rfl | exact Or.inr (Or.inl rfl) | exact Or.inr (Or.inr rfl)) (by decide) (by decide) rfl G.g_isinstance (dt_cons (cau.t_ "BadBook" (by decide)) (dt_cons (cau.t_ "NoAmount" (by decide)) (dt_cons (cau.t_ "NoHouse" (by decide)) (dt_cons (cau.t_ "NoIndex" (by decide)) dt_nil rfl (by decide)) rfl (by decide)) rfl (by decide)) rfl (by decide)))))) sc__law_told.nd) (ds_one (ds_set 2 (de_ifExp (DW.toDB (dw_and (db_val (de_var 4)) (dw_and1 (db_val (de_isX cau 3 (m := "BadText") (by decide) rfl (by first | exact Or.inl rfl | exact Or.inr (Or.inl rfl) | exact Or.inr (Or.inr rfl)) (by decide) (by decide) rfl G.g_isinstance rfl (by decide)))))) (de_lst (da_cons (de_fld cau 3 (f := "index") (by decide) rfl (by first | exact Or.inl rfl | exact Or.inr (Or.inl rfl) | exact Or.inr (Or.inr rfl)) (by decide) (by decide)) da_nil)) (de_lst (da_cons de_str da_nil))) sc__law_told.nd))))) (ds_one (ds_ret (de_var 2)))))) law
abbrev N__law_number : List Str := ["_law_text", "_law_low", "_law_high", "_law_number_here", "_law_sign"]
theorem sc__law_number : FnScope N__law_number ["_law_text", "_law_low", "_law_high"] (defScope s__law_number) := ⟨rfl, rfl, rfl, by decide +kernel, rfl, by decide +kernel, by decide +kernel⟩
def d__law_number_3 : DS_ := (dRet (dIf (dAnd (dTst (dOp oEq (dCB oStr (dCons (dVar 3) dNil)) (dVar 0))) (dTst (dChain oLe oLe (dVar 1) (dVar 3) (dVar 2)))) (dVar 3) (dC .non)))
def r__law_number_3 : DS_ := d__law_number_3
def d__law_number_2 : DS_ := (dFor (dSgns (dVar 0)) (dgName 4) (dSet 3 (dOp oAdd (dOp oMulA (dVar 3) (dC (.it 10))) (dIndexS (dC (.st "0123456789")) (dVar 4)))))
def r__law_number_2 : DS_ := dSeq d__law_number_2 r__law_number_3
def d__law_number_1 : DS_ := (dSet 3 (dC (.it 0)))
def r__law_number_1 : DS_ := dSeq d__law_number_1 r__law_number_2
def d__law_number_0 : DS_ := (dIfS (dOr (dTst (dOp oEq (dVar 0) (dC (.st "")))) (dOr (dTst (dOp oGt (dCB oLen (dCons (dVar 0) dNil)) (dC (.it 13)))) (dTst (dOp oNe (dFrz (dLc (dSgns (dVar 0)) (dgName 4) (dTst (dOp oNotInS (dVar 4) (dC (.st "0123456789")))) (dVar 4) [4])) (dLst dNil))))) (dRet (dC .non)) dNext)
def r__law_number_0 : DS_ := dSeq d__law_number_0 r__law_number_1
def d__law_number : DS_ := r__law_number_0
theorem w__law_number {f : Addr} {fd : FuncData} {k : Nat} (F : Fun K "_law_number" "_law_number" s__law_number f fd) (G : Gs K mg) (hsys : ∃ o, base.get? sysModules = some o)
    (len : ∀ ds Q E, sp__law_number ds Q E → ds.length = 3) (law : ∀ ds Q E, sp__law_number ds Q E → d__law_number { nx := fun _ => Q .non, rt := Q, ex := E } (dstart 5 ds)) : GFn P w K mg base (k + 1) f fd ["_law_text", "_law_low", "_law_high"] sp__law_number := by
  exact gfn_mk F sc__law_number len (fun cdv A outer s H E hr hgd => (ds_cons (ds_if (DW.toDB (dw_or (db_eq hr (de_var 0) de_str) (dw_or (db_gt (de_len rfl G.g_len (da_cons (de_var 0) da_nil)) de_int) (dw_or1 (db_ne hr (DN.toDE (dn_lc rfl sc__law_number.nd (di_sgns (de_var 0)) (own := [("_law_sign", 4)]) (blkOk_by (by show blkC N__law_number (defScope s__law_number) _ _ = true; decide +kernel)) (vsg := [4]) (by decide) (fun s H C cl fp => (dg_name 4 sc__law_number.nd)) (fun s H C cl fp => (dts_one (db_notInS (de_var 4) de_str))) (fun s H C cl fp => (de_var 4)))) (de_lst da_nil)))))) (ds_one (ds_ret de_non)) ds_nil) (ds_cons (ds_set 3 de_int sc__law_number.nd) (ds_cons (ds_for (passes_of rfl) rfl (di_sgns (de_var 0)) (dg_name 4 sc__law_number.nd) (ds_one (ds_set 3 (de_add (de_mulA (de_var 3) de_int) (de_indexS de_str (de_var 4))) sc__law_number.nd))) (ds_one (ds_ret (de_ifExp (DW.toDB (dw_and (db_eq hr (de_str1 rfl G.g_str (da_cons (de_var 3) da_nil)) (de_var 0)) (dw_and1 (db_chain op_le od_B0 op_le od_B0 (de_var 1) (de_var 3) (de_var 2))))) (de_var 3) de_non))))))) law
abbrev N__law_house_of : List Str := ["_law_text", "_law_begin", "_law_end", "_law_slips", "_law_parts", "_law_part", "_law_to", "_law_amount", "_law_slip"]
theorem sc__law_house_of : FnScope N__law_house_of ["_law_text"] (defScope s__law_house_of) := ⟨rfl, rfl, rfl, by decide +kernel, rfl, by decide +kernel, by decide +kernel⟩
def d__law_house_of_4b_2 : DS_ := (dApp 3 (dTup (dCons (dCall sp__law_number (dCons (dVar 6) (dCons (dC (.it 0)) (dCons (dC (.it 5)) dNil)))) (dCons (dCall sp__law_number (dCons (dVar 7) (dCons (dC (.it 1)) (dCons (dOp oPow (dC (.it 10)) (dC (.it 9))) dNil)))) dNil))))
def r__law_house_of_4b_2 : DS_ := d__law_house_of_4b_2
def d__law_house_of_4b_1 : DS_ := (dAsg (dFrz (dSplitN (dVar 5) (dC (.st "-")))) (dgLst 2 (dgCons (dgName 6) (dgCons (dgName 7) dgNil))))
def r__law_house_of_4b_1 : DS_ := dSeq d__law_house_of_4b_1 r__law_house_of_4b_2
def d__law_house_of_4b_0 : DS_ := (dIfS (dTst (dOp oNe (dCountS (dVar 5) (dC (.st "-"))) (dC (.it 1)))) (dRet (dC .non)) dNext)
def r__law_house_of_4b_0 : DS_ := dSeq d__law_house_of_4b_0 r__law_house_of_4b_1
def d__law_house_of_6 : DS_ := (dRet (dTup (dCons (dCB oIntS (dCons (dVar 1) dNil)) (dCons (dCB oTuple (dCons (dVar 3) dNil)) dNil))))
def r__law_house_of_6 : DS_ := d__law_house_of_6
def d__law_house_of_5 : DS_ := (dFrzS 3 (dIfS (dOr (dTst (dOp oGt (dCB oLen (dCons (dVar 3) dNil)) (dC (.it 6)))) (dOr (dTst (dOp oNe (dFrz (dLc (dSeqI (dVar 3)) (dgName 8) (dTst (dOp oIn (dC .non) (dVar 8))) (dVar 8) [8])) (dLst dNil))) (dTst (dIsN (dCall sp__law_number (dCons (dVar 1) (dCons (dC (.it 0)) (dCons (dOp oPow (dC (.it 10)) (dC (.it 12))) dNil)))))))) (dRet (dC .non)) dNext))
def r__law_house_of_5 : DS_ := dSeq d__law_house_of_5 r__law_house_of_6
def d__law_house_of_4 : DS_ := (dFor (dSeqI (dVar 4)) (dgName 5) r__law_house_of_4b_0)
def r__law_house_of_4 : DS_ := dSeq d__law_house_of_4 r__law_house_of_5
def d__law_house_of_3 : DS_ := (dSet 4 (dIf (dTst (dOp oNe (dVar 2) (dC (.st "")))) (dFrz (dSplitN (dVar 2) (dC (.st ",")))) (dLst dNil)))
def r__law_house_of_3 : DS_ := dSeq d__law_house_of_3 r__law_house_of_4
def d__law_house_of_2 : DS_ := (dSetO 3 (dLstN dNil))
def r__law_house_of_2 : DS_ := dSeq d__law_house_of_2 r__law_house_of_3
def d__law_house_of_1 : DS_ := (dAsg (dFrz (dSplitN (dVar 0) (dC (.st ":")))) (dgLst 2 (dgCons (dgName 1) (dgCons (dgName 2) dgNil))))
def r__law_house_of_1 : DS_ := dSeq d__law_house_of_1 r__law_house_of_2
def d__law_house_of_0 : DS_ := (dIfS (dTst (dOp oNe (dCountS (dVar 0) (dC (.st ":"))) (dC (.it 1)))) (dRet (dC .non)) dNext)
def r__law_house_of_0 : DS_ := dSeq d__law_house_of_0 r__law_house_of_1
def d__law_house_of : DS_ := r__law_house_of_0
theorem w__law_house_of {f : Addr} {fd : FuncData} {k : Nat} (F : Fun K "_law_house_of" "_law_house_of" s__law_house_of f fd) (G : Gs K mg) (hsys : ∃ o, base.get? sysModules = some o) (C__law_number : Cal P w K mg base k "_law_number" ["_law_text", "_law_low", "_law_high"] sp__law_number)
    (len : ∀ ds Q E, sp__law_house_of ds Q E → ds.length = 1) (law : ∀ ds Q E, sp__law_house_of ds Q E → d__law_house_of { nx := fun _ => Q .non, rt := Q, ex := E } (dstart 9 ds)) : GFn P w K mg base (k + 1) f fd ["_law_text"] sp__law_house_of := by
  exact gfn_mk F sc__law_house_of len (fun cdv A outer s H E hr hgd => (ds_cons (ds_if (db_ne hr (de_countS (de_var 0) de_str) de_int) (ds_one (ds_ret de_non)) ds_nil) (ds_cons (ds_asg (DN.toDE (dn_split (de_var 0) de_str)) (dg_lst (n := 2) rfl (dgs_cons (dg_name 1 sc__law_house_of.nd) (dgs_cons (dg_name 2 sc__law_house_of.nd) dgs_nil)))) (ds_cons (ds_setO 3 (dn_lst da_nil) sc__law_house_of.nd) (ds_cons (ds_set 4 (de_ifExp (db_ne hr (de_var 2) de_str) (DN.toDE (dn_split (de_var 2) de_str)) (de_lst da_nil)) sc__law_house_of.nd) (ds_cons (ds_for (passes_of rfl) rfl (di_seq (de_var 4)) (dg_name 5 sc__law_house_of.nd) (ds_cons (ds_if (db_ne hr (de_countS (de_var 5) de_str) de_int) (ds_one (ds_ret de_non)) ds_nil) (ds_cons (ds_asg (DN.toDE (dn_split (de_var 5) de_str)) (dg_lst (n := 2) rfl (dgs_cons (dg_name 6 sc__law_house_of.nd) (dgs_cons (dg_name 7 sc__law_house_of.nd) dgs_nil)))) (ds_one (ds_append 3 (de_tup (da_cons (de_call C__law_number hr hgd passD rfl (da_cons (de_var 6) (da_cons de_int (da_cons de_int da_nil)))) (da_cons (de_call C__law_number hr hgd passD rfl (da_cons (de_var 7) (da_cons de_int (da_cons (de_pow de_int de_int) da_nil)))) da_nil)))))))) (ds_cons (ds_frz 3 (ds_if (DW.toDB (dw_or (db_gt (de_len rfl G.g_len (da_cons (de_var 3) da_nil)) de_int) (dw_or (db_ne hr (DN.toDE (dn_lc rfl sc__law_house_of.nd (di_seq (de_var 3)) (own := [("_law_slip", 8)]) (blkOk_by (by show blkC N__law_house_of (defScope s__law_house_of) _ _ = true; decide +kernel)) (vsg := [8]) (by decide) (fun s H C cl fp => (dg_name 8 sc__law_house_of.nd)) (fun s H C cl fp => (dts_one (db_in hr de_non (de_var 8)))) (fun s H C cl fp => (de_var 8)))) (de_lst da_nil)) (dw_or1 (db_isN (de_call C__law_number hr hgd passD rfl (da_cons (de_var 1) (da_cons de_int (da_cons (de_pow de_int de_int) da_nil))))))))) (ds_one (ds_ret de_non)) ds_nil)) (ds_one (ds_ret (de_tup (da_cons (de_intS rfl G.g_int (da_cons (de_var 1) da_nil)) (da_cons (de_tuple rfl G.g_tuple (da_cons (de_var 3) da_nil)) da_nil)))))))))))) law
abbrev N__law_due_book : List Str := ["_law_value", "_law_found", "_law_index", "_law_house", "_law_purse", "_law_pile_here", "_law_text", "_law_to", "_law_amount"]
theorem sc__law_due_book : FnScope N__law_due_book ["_law_value"] (defScope s__law_due_book) := ⟨rfl, rfl, rfl, by decide +kernel, rfl, by decide +kernel, by decide +kernel⟩
def d__law_due_book_4 : DS_ := (dRet (dCB oTuple (dCons (dVar 1) dNil)))
def r__law_due_book_4 : DS_ := d__law_due_book_4
def d__law_due_book_3 : DS_ := (dFor (dEnum (dCons (dVar 1) dNil)) (dgTup 2 (dgCons (dgName 2) (dgCons (dgTup 2 (dgCons (dgName 4) (dgCons (dgName 5) dgNil))) dgNil))) (dIfS (dTst (dOp oNe (dFrz (dLc (dSeqI (dVar 5)) (dgTup 2 (dgCons (dgName 7) (dgCons (dgName 8) dgNil))) (dOr (dTst (dOp oEq (dVar 7) (dVar 2))) (dTst (dOp oGe (dVar 7) (dCB oLen (dCons (dVar 1) dNil))))) (dVar 7) [7, 8])) (dLst dNil))) (dRet (dLst (dCons (dVar 2) dNil))) dNext))
def r__law_due_book_3 : DS_ := dSeq d__law_due_book_3 r__law_due_book_4
def d__law_due_book_2 : DS_ := (dFor (dEnum (dCons (dVar 1) dNil)) (dgTup 2 (dgCons (dgName 2) (dgCons (dgName 3) dgNil))) (dIfS (dOr (dTst (dIsN (dVar 3))) (dTst (dOp oEq (dVar 2) (dC (.it 6))))) (dRet (dLst (dCons (dVar 2) dNil))) dNext))
def r__law_due_book_2 : DS_ := dSeq d__law_due_book_2 r__law_due_book_3
def d__law_due_book_1 : DS_ := (dSetN 1 (dLc (dSeqI (dFrz (dSplitN (dVar 0) (dC (.st " "))))) (dgName 6) dYes (dCall sp__law_house_of (dCons (dVar 6) dNil)) [6]))
def r__law_due_book_1 : DS_ := dSeq d__law_due_book_1 r__law_due_book_2
def d__law_due_book_0 : DS_ := (dIfS (dNot (dTst (dIsi "str" (dVar 0)))) (dRet (dLst (dCons (dC .non) dNil))) dNext)
def r__law_due_book_0 : DS_ := dSeq d__law_due_book_0 r__law_due_book_1
def d__law_due_book : DS_ := r__law_due_book_0
theorem w__law_due_book {f : Addr} {fd : FuncData} {k : Nat} (F : Fun K "_law_due_book" "_law_due_book" s__law_due_book f fd) (G : Gs K mg) (hsys : ∃ o, base.get? sysModules = some o) (C__law_house_of : Cal P w K mg base k "_law_house_of" ["_law_text"] sp__law_house_of)
    (len : ∀ ds Q E, sp__law_due_book ds Q E → ds.length = 1) (law : ∀ ds Q E, sp__law_due_book ds Q E → d__law_due_book { nx := fun _ => Q .non, rt := Q, ex := E } (dstart 9 ds)) : GFn P w K mg base (k + 1) f fd ["_law_value"] sp__law_due_book := by
  exact gfn_mk F sc__law_due_book len (fun cdv A outer s H E hr hgd => (ds_cons (ds_if (db_not (db_val (de_isi rfl G.g_isinstance rfl G.g_str (by decide +kernel) kit_str (de_var 0)))) (ds_one (ds_ret (de_lst (da_cons de_non da_nil)))) ds_nil) (ds_cons (ds_setN 1 (dn_lc rfl sc__law_due_book.nd (di_seq (DN.toDE (dn_split (de_var 0) de_str))) (own := [("_law_text", 6)]) (blkOk_by (by show blkC N__law_due_book (defScope s__law_due_book) _ _ = true; decide +kernel)) (vsg := [6]) (by decide) (fun s H C cl fp => (dg_name 6 sc__law_due_book.nd)) (fun s H C cl fp => dts_nil) (fun s H C cl fp => (de_call C__law_house_of hr hgd passL rfl (da_cons (de_var 6) da_nil)))) sc__law_due_book.nd) (ds_cons (ds_for (passes_of rfl) rfl (di_enum rfl G.g_enumerate (da_cons (de_var 1) da_nil)) (dg_tup (n := 2) rfl (dgs_cons (dg_name 2 sc__law_due_book.nd) (dgs_cons (dg_name 3 sc__law_due_book.nd) dgs_nil))) (ds_one (ds_if (DW.toDB (dw_or (db_isN (de_var 3)) (dw_or1 (db_eq hr (de_var 2) de_int)))) (ds_one (ds_ret (de_lst (da_cons (de_var 2) da_nil)))) ds_nil))) (ds_cons (ds_for (passes_of rfl) rfl (di_enum rfl G.g_enumerate (da_cons (de_var 1) da_nil)) (dg_tup (n := 2) rfl (dgs_cons (dg_name 2 sc__law_due_book.nd) (dgs_cons (dg_tup (n := 2) rfl (dgs_cons (dg_name 4 sc__law_due_book.nd) (dgs_cons (dg_name 5 sc__law_due_book.nd) dgs_nil))) dgs_nil))) (ds_one (ds_if (db_ne hr (DN.toDE (dn_lc rfl sc__law_due_book.nd (di_seq (de_var 5)) (own := [("_law_to", 7), ("_law_amount", 8)]) (blkOk_by (by show blkC N__law_due_book (defScope s__law_due_book) _ _ = true; decide +kernel)) (vsg := [7, 8]) (by decide) (fun s H C cl fp => (dg_tup (n := 2) rfl (dgs_cons (dg_name 7 sc__law_due_book.nd) (dgs_cons (dg_name 8 sc__law_due_book.nd) dgs_nil)))) (fun s H C cl fp => (dts_one (DW.toDB (dw_or (db_eq hr (de_var 7) (de_var 2)) (dw_or1 (db_ge (de_var 7) (de_len rfl G.g_len (da_cons (de_var 1) da_nil)))))))) (fun s H C cl fp => (de_var 7)))) (de_lst da_nil)) (ds_one (ds_ret (de_lst (da_cons (de_var 2) da_nil)))) ds_nil))) (ds_one (ds_ret (de_tuple rfl G.g_tuple (da_cons (de_var 1) da_nil))))))))) law
abbrev N__law_due_payments : List Str := ["_law_book_here", "_law_value", "_law_owed", "_law_found", "_law_index", "_law_text"]
theorem sc__law_due_payments : FnScope N__law_due_payments ["_law_book_here", "_law_value"] (defScope s__law_due_payments) := ⟨rfl, rfl, rfl, by decide +kernel, rfl, by decide +kernel, by decide +kernel⟩
def d__law_due_payments_2b_1 : DS_ := (dApp 3 (dCB oIntS (dCons (dVar 5) dNil)))
def r__law_due_payments_2b_1 : DS_ := d__law_due_payments_2b_1
def d__law_due_payments_2b_0 : DS_ := (dIfS (dOr (dTst (dOp oGe (dVar 4) (dCB oLen (dCons (dVar 2) dNil)))) (dTst (dIsN (dCall sp__law_number (dCons (dVar 5) (dCons (dC (.it 0)) (dCons (dOp oIx (dVar 2) (dVar 4)) dNil))))))) (dRet (dLst (dCons (dVar 4) dNil))) dNext)
def r__law_due_payments_2b_0 : DS_ := dSeq d__law_due_payments_2b_0 r__law_due_payments_2b_1
def d__law_due_payments_3 : DS_ := (dFrzS 3 (dRet (dIf (dTst (dOp oEq (dCB oLen (dCons (dVar 3) dNil)) (dCB oLen (dCons (dVar 2) dNil)))) (dCB oTuple (dCons (dVar 3) dNil)) (dLst (dCons (dCB oLen (dCons (dVar 3) dNil)) dNil)))))
def r__law_due_payments_3 : DS_ := d__law_due_payments_3
def d__law_due_payments_2 : DS_ := (dFor (dEnum (dCons (dFrz (dSplitN (dVar 1) (dC (.st " ")))) dNil)) (dgTup 2 (dgCons (dgName 4) (dgCons (dgName 5) dgNil))) r__law_due_payments_2b_0)
def r__law_due_payments_2 : DS_ := dSeq d__law_due_payments_2 r__law_due_payments_3
def d__law_due_payments_1 : DS_ := (dParP 2 3 (dCall sp__law_debts (dCons (dVar 0) dNil)) (dLstN dNil))
def r__law_due_payments_1 : DS_ := dSeq d__law_due_payments_1 r__law_due_payments_2
def d__law_due_payments_0 : DS_ := (dIfS (dNot (dTst (dIsi "str" (dVar 1)))) (dRet (dLst (dCons (dC .non) dNil))) dNext)
def r__law_due_payments_0 : DS_ := dSeq d__law_due_payments_0 r__law_due_payments_1
def d__law_due_payments : DS_ := r__law_due_payments_0
theorem w__law_due_payments {f : Addr} {fd : FuncData} {k : Nat} (F : Fun K "_law_due_payments" "_law_due_payments" s__law_due_payments f fd) (G : Gs K mg) (hsys : ∃ o, base.get? sysModules = some o) (C__law_debts : Cal P w K mg base k "_law_debts" ["_law_book_here"] sp__law_debts) (C__law_number : Cal P w K mg base k "_law_number" ["_law_text", "_law_low", "_law_high"] sp__law_number)
    (len : ∀ ds Q E, sp__law_due_payments ds Q E → ds.length = 2) (law : ∀ ds Q E, sp__law_due_payments ds Q E → d__law_due_payments { nx := fun _ => Q .non, rt := Q, ex := E } (dstart 6 ds)) : GFn P w K mg base (k + 1) f fd ["_law_book_here", "_law_value"] sp__law_due_payments := by
  exact gfn_mk F sc__law_due_payments len (fun cdv A outer s H E hr hgd => (ds_cons (ds_if (db_not (db_val (de_isi rfl G.g_isinstance rfl G.g_str (by decide +kernel) kit_str (de_var 1)))) (ds_one (ds_ret (de_lst (da_cons de_non da_nil)))) ds_nil) (ds_cons (ds_parP (i := 2) (j := 3) rfl sc__law_due_payments.nd (de_call C__law_debts hr hgd passD rfl (da_cons (de_var 0) da_nil)) (dn_lst da_nil) rfl) (ds_cons (ds_for (passes_of rfl) rfl (di_enum rfl G.g_enumerate (da_cons (DN.toDE (dn_split (de_var 1) de_str)) da_nil)) (dg_tup (n := 2) rfl (dgs_cons (dg_name 4 sc__law_due_payments.nd) (dgs_cons (dg_name 5 sc__law_due_payments.nd) dgs_nil))) (ds_cons (ds_if (DW.toDB (dw_or (db_ge (de_var 4) (de_len rfl G.g_len (da_cons (de_var 2) da_nil))) (dw_or1 (db_isN (de_call C__law_number hr hgd passD rfl (da_cons (de_var 5) (da_cons de_int (da_cons (de_ix (de_var 2) (de_var 4)) da_nil)))))))) (ds_one (ds_ret (de_lst (da_cons (de_var 4) da_nil)))) ds_nil) (ds_one (ds_append 3 (de_intS rfl G.g_int (da_cons (de_var 5) da_nil)))))) (ds_one (ds_frz 3 (ds_ret (de_ifExp (db_eq hr (de_len rfl G.g_len (da_cons (de_var 3) da_nil)) (de_len rfl G.g_len (da_cons (de_var 2) da_nil))) (de_tuple rfl G.g_tuple (da_cons (de_var 3) da_nil)) (de_lst (da_cons (de_len rfl G.g_len (da_cons (de_var 3) da_nil)) da_nil)))))))))) law
abbrev N__law_changed : List Str := ["_law_box", "_law_text", "_law_at", "_law_signs", "_law_some", "_law_words", "_law_spot"]
theorem sc__law_changed : FnScope N__law_changed ["_law_box", "_law_text"] (defScope s__law_changed) := ⟨rfl, rfl, rfl, by decide +kernel, rfl, by decide +kernel, by decide +kernel⟩
def d__law_changed_5 : DS_ := (dRet (dCall sp__law_one (dCons (dVar 0) (dCons (dOp oAdd (dVar 4) (dLst (dCons (dOp oAdd (dOp oAdd (dSl (dVar 1) dNoPart (dPart (dVar 2))) (dCall sp__law_one (dCons (dVar 0) (dCons (dVar 3) dNil)))) (dSl (dVar 1) (dPart (dOp oAdd (dVar 2) (dC (.it 1)))) dNoPart)) (dCons (dVar 1) (dCons (dOp oAdd (dC (.st " ")) (dVar 1)) dNil))))) dNil))))
def r__law_changed_5 : DS_ := d__law_changed_5
def d__law_changed_4 : DS_ := (dSet 4 (dOp oAdd (dVar 4) (dLst (dCons (dJoin (dC (.st " ")) (dOp oAdd (dSl (dVar 5) dNoPart (dPart (dVar 6))) (dSl (dVar 5) (dPart (dOp oAdd (dVar 6) (dC (.it 1)))) dNoPart))) (dCons (dJoin (dC (.st " ")) (dOp oAdd (dVar 5) (dSl (dVar 5) (dPart (dVar 6)) dNoPart))) (dCons (dJoin (dC (.st " ")) (dRev (dVar 5))) dNil))))))
def r__law_changed_4 : DS_ := dSeq d__law_changed_4 r__law_changed_5
def d__law_changed_3 : DS_ := (dSet 6 (dCall sp__law_draw (dCons (dVar 0) (dCons (dCB oLen (dCons (dVar 5) dNil)) dNil))))
def r__law_changed_3 : DS_ := dSeq d__law_changed_3 r__law_changed_4
def d__law_changed_2 : DS_ := (dSet 5 (dFrz (dSplitN (dVar 1) (dC (.st " ")))))
def r__law_changed_2 : DS_ := dSeq d__law_changed_2 r__law_changed_3
def d__law_changed_1 : DS_ := (dSet 4 (dLst (dCons (dOp oAdd (dOp oAdd (dSl (dVar 1) dNoPart (dPart (dVar 2))) (dCall sp__law_one (dCons (dVar 0) (dCons (dVar 3) dNil)))) (dSl (dVar 1) (dPart (dVar 2)) dNoPart)) (dCons (dOp oAdd (dSl (dVar 1) dNoPart (dPart (dVar 2))) (dSl (dVar 1) (dPart (dOp oAdd (dVar 2) (dC (.it 1)))) dNoPart)) (dCons (dOp oAdd (dVar 1) (dCall sp__law_one (dCons (dVar 0) (dCons (dVar 3) dNil)))) dNil)))))
def r__law_changed_1 : DS_ := dSeq d__law_changed_1 r__law_changed_2
def d__law_changed_0 : DS_ := (dPar 2 3 (dCons (dCall sp__law_draw (dCons (dVar 0) (dCons (dOp oAdd (dCB oLen (dCons (dVar 1) dNil)) (dC (.it 1))) dNil))) (dCons (dLst (dCons (dC (.st "0")) (dCons (dC (.st "1")) (dCons (dC (.st "9")) (dCons (dC (.st " ")) (dCons (dC (.st "-")) (dCons (dC (.st ":")) (dCons (dC (.st ",")) (dCons (dC (.st "a")) (dCons (dC (.st "+")) (dCons (dC (.st ".")) (dCons (dC (.st "")) (dCons (dC (.st "00")) (dCons (dC (.st "  ")) (dCons (dC (.st "\n")) dNil))))))))))))))) dNil)))
def r__law_changed_0 : DS_ := dSeq d__law_changed_0 r__law_changed_1
def d__law_changed : DS_ := r__law_changed_0
theorem w__law_changed {f : Addr} {fd : FuncData} {k : Nat} (F : Fun K "_law_changed" "_law_changed" s__law_changed f fd) (G : Gs K mg) (hsys : ∃ o, base.get? sysModules = some o) (C__law_draw : Cal P w K mg base k "_law_draw" ["_law_box", "_law_many"] sp__law_draw) (C__law_one : Cal P w K mg base k "_law_one" ["_law_box", "_law_items"] sp__law_one)
    (len : ∀ ds Q E, sp__law_changed ds Q E → ds.length = 2) (law : ∀ ds Q E, sp__law_changed ds Q E → d__law_changed { nx := fun _ => Q .non, rt := Q, ex := E } (dstart 7 ds)) : GFn P w K mg base (k + 1) f fd ["_law_box", "_law_text"] sp__law_changed := by
  exact gfn_mk F sc__law_changed len (fun cdv A outer s H E hr hgd => (ds_cons (ds_par (i := 2) (j := 3) rfl sc__law_changed.nd (da_cons (de_call C__law_draw hr hgd passD rfl (da_cons (de_var 0) (da_cons (de_add (de_len rfl G.g_len (da_cons (de_var 1) da_nil)) de_int) da_nil))) (da_cons (de_lst (da_cons de_str (da_cons de_str (da_cons de_str (da_cons de_str (da_cons de_str (da_cons de_str (da_cons de_str (da_cons de_str (da_cons de_str (da_cons de_str (da_cons de_str (da_cons de_str (da_cons de_str (da_cons de_str da_nil))))))))))))))) da_nil)) rfl) (ds_cons (ds_set 4 (de_lst (da_cons (de_add (de_add (de_slice (de_var 1) do_none (do_some (de_var 2))) (de_call C__law_one hr hgd passD rfl (da_cons (de_var 0) (da_cons (de_var 3) da_nil)))) (de_slice (de_var 1) (do_some (de_var 2)) do_none)) (da_cons (de_add (de_slice (de_var 1) do_none (do_some (de_var 2))) (de_slice (de_var 1) (do_some (de_add (de_var 2) de_int)) do_none)) (da_cons (de_add (de_var 1) (de_call C__law_one hr hgd passD rfl (da_cons (de_var 0) (da_cons (de_var 3) da_nil)))) da_nil)))) sc__law_changed.nd) (ds_cons (ds_set 5 (DN.toDE (dn_split (de_var 1) de_str)) sc__law_changed.nd) (ds_cons (ds_set 6 (de_call C__law_draw hr hgd passD rfl (da_cons (de_var 0) (da_cons (de_len rfl G.g_len (da_cons (de_var 5) da_nil)) da_nil))) sc__law_changed.nd) (ds_cons (ds_set 4 (de_add (de_var 4) (de_lst (da_cons (de_join de_str (de_add (de_slice (de_var 5) do_none (do_some (de_var 6))) (de_slice (de_var 5) (do_some (de_add (de_var 6) de_int)) do_none))) (da_cons (de_join de_str (de_add (de_var 5) (de_slice (de_var 5) (do_some (de_var 6)) do_none))) (da_cons (de_join de_str (de_rev (de_var 5))) da_nil))))) sc__law_changed.nd) (ds_one (ds_ret (de_call C__law_one hr hgd passD rfl (da_cons (de_var 0) (da_cons (de_add (de_var 4) (de_lst (da_cons (de_add (de_add (de_slice (de_var 1) do_none (do_some (de_var 2))) (de_call C__law_one hr hgd passD rfl (da_cons (de_var 0) (da_cons (de_var 3) da_nil)))) (de_slice (de_var 1) (do_some (de_add (de_var 2) de_int)) do_none)) (da_cons (de_var 1) (da_cons (de_add de_str (de_var 1)) da_nil))))) da_nil))))))))))) law
abbrev N_law : List Str := ["_law_script", "_law_box", "_law_turn", "_law_book_here", "_law_text", "_law_other", "_law_values", "_law_nines", "_law_k", "_law_first", "_law_second", "_law_value", "_law_shown", "_law_texts"]
theorem sc_law : FnScope N_law ["_law_script"] (defScope s_law) := ⟨rfl, rfl, rfl, by decide +kernel, rfl, by decide +kernel, by decide +kernel⟩
def d_law_0b_6b_1 : DS_ := (dFrzS 6 (dSetO 6 (dCatN (dVar 6) (dLst (dCons (dVar 9) (dCons (dVar 10) (dCons (dCall sp__law_changed (dCons (dVar 1) (dCons (dVar 9) dNil))) (dCons (dCall sp__law_changed (dCons (dVar 1) (dCons (dVar 10) dNil))) dNil))))))))
def r_law_0b_6b_1 : DS_ := d_law_0b_6b_1
def d_law_0b_6b_0 : DS_ := (dPar 9 10 (dCons (dCall sp__law_changed (dCons (dVar 1) (dCons (dVar 4) dNil))) (dCons (dCall sp__law_changed (dCons (dVar 1) (dCons (dVar 5) dNil))) dNil)))
def r_law_0b_6b_0 : DS_ := dSeq d_law_0b_6b_0 r_law_0b_6b_1
def d_law_0b_7b_2 : DS_ := (dIfS (dOr (dTst (dOp oNe (dCB oRepr (dCons (dCall sp__law_told (dCons (dVar 3) (dCons (dVar 11) dNil))) dNil)) (dCB oRepr (dCons (dCall sp__law_due_payments (dCons (dVar 3) (dCons (dVar 11) dNil))) dNil)))) (dTst (dOp oNe (dCB oRepr (dCons (dVar 11) dNil)) (dVar 12)))) (dRet (dC (.bl false))) dNext)
def r_law_0b_7b_2 : DS_ := d_law_0b_7b_2
def d_law_0b_7b_1 : DS_ := (dIfS (dTst (dOp oNe (dCB oRepr (dCons (dCall sp__law_told (dCons (dC .non) (dCons (dVar 11) dNil))) dNil)) (dCB oRepr (dCons (dCall sp__law_due_book (dCons (dVar 11) dNil)) dNil)))) (dRet (dC (.bl false))) dNext)
def r_law_0b_7b_1 : DS_ := dSeq d_law_0b_7b_1 r_law_0b_7b_2
def d_law_0b_7b_0 : DS_ := (dSet 12 (dCB oRepr (dCons (dVar 11) dNil)))
def r_law_0b_7b_0 : DS_ := dSeq d_law_0b_7b_0 r_law_0b_7b_1
def d_law_0b_7 : DS_ := (dFrzS 6 (dFor (dSeqI (dVar 6)) (dgName 11) r_law_0b_7b_0))
def r_law_0b_7 : DS_ := d_law_0b_7
def d_law_0b_6 : DS_ := (dFor (dRng1 (dCons (dC (.it 9)) dNil)) (dgName 8) r_law_0b_6b_0)
def r_law_0b_6 : DS_ := dSeq d_law_0b_6 r_law_0b_7
def d_law_0b_5 : DS_ := (dApp 6 (dJoin (dC (.st " ")) (dOp oMulA (dLst (dCons (dC (.st "0:")) dNil)) (dCall sp__law_one (dCons (dVar 1) (dCons (dLst (dCons (dC (.it 6)) (dCons (dC (.it 7)) dNil))) dNil))))))
def r_law_0b_5 : DS_ := dSeq d_law_0b_5 r_law_0b_6
def d_law_0b_4 : DS_ := (dFrzS 6 (dSetO 6 (dCatN (dVar 6) (dLst (dCons (dLst (dCons (dVar 4) dNil)) (dCons (dTup (dCons (dVar 4) dNil)) (dCons (dC .non) (dCons (dVar 7) (dCons (dOp oAdd (dVar 7) (dC (.st ":"))) (dCons (dOp oAdd (dOp oAdd (dC (.st "0:1-")) (dVar 7)) (dC (.st " 0:"))) (dCons (dOp oAdd (dOp oAdd (dC (.st "0:")) (dVar 7)) (dC (.st "-1"))) dNil)))))))))))
def r_law_0b_4 : DS_ := dSeq d_law_0b_4 r_law_0b_5
def d_law_0b_3 : DS_ := (dSet 7 (dOp oMulTx (dC (.st "9")) (dC (.it 5000))))
def r_law_0b_3 : DS_ := dSeq d_law_0b_3 r_law_0b_4
def d_law_0b_2 : DS_ := (dSetO 6 (dLstN (dCons (dVar 4) (dCons (dVar 5) (dCons (dC (.st "")) (dCons (dC (.st " ")) (dCons (dC (.st "0:")) (dCons (dC (.st "0")) (dCons (dC (.st "0: 0:")) (dCons (dC (.st "0:1-1")) (dCons (dC (.st "5:1-2 7:0-3")) (dCons (dCall sp__law_odd (dCons (dVar 1) dNil)) dNil))))))))))))
def r_law_0b_2 : DS_ := dSeq d_law_0b_2 r_law_0b_3
def d_law_0b_1 : DS_ := (dPar 4 5 (dCons (dCall sp_book_text (dCons (dVar 3) dNil)) (dCons (dCall sp_payments_text (dCons (dCall sp__law_payments (dCons (dVar 1) (dCons (dVar 3) dNil))) dNil)) dNil)))
def r_law_0b_1 : DS_ := dSeq d_law_0b_1 r_law_0b_2
def d_law_0b_0 : DS_ := (dSet 3 (dCall sp__law_book (dCons (dVar 1) (dCons (dOp oIx (dLst (dCons (dC (.it 6)) (dCons (dC (.it 3)) dNil))) (dOp oMod (dVar 2) (dC (.it 2)))) (dCons (dOp oIx (dLst (dCons (dC (.it 6)) (dCons (dC (.it 2)) dNil))) (dOp oMod (dVar 2) (dC (.it 2)))) (dCons (dOp oIx (dLst (dCons (dC (.it 9)) (dCons (dOp oPow (dC (.it 10)) (dC (.it 9))) (dCons (dC (.it 9)) dNil)))) (dOp oMod (dVar 2) (dC (.it 3)))) dNil))))))
def r_law_0b_0 : DS_ := dSeq d_law_0b_0 r_law_0b_1
def d_law_3 : DS_ := (dRet (dOp oEq (dLst (dCons (dCall sp__law_told (dCons (dC .non) (dCons (dOp oIx (dVar 13) (dC (.it 1))) dNil))) (dCons (dCall sp__law_told (dCons (dC .non) (dCons (dC (.st "1000000000001:")) dNil))) dNil))) (dLst (dCons (dLst (dCons (dC (.it 0)) dNil)) (dCons (dLst (dCons (dC (.it 0)) dNil)) dNil)))))
def r_law_3 : DS_ := d_law_3
def d_law_2 : DS_ := (dIfS (dTst (dOp oNe (dCB oRepr (dCons (dCall sp__law_told (dCons (dC .non) (dCons (dOp oIx (dVar 13) (dC (.it 0))) dNil))) dNil)) (dCB oRepr (dCons (dTup (dCons (dTup (dCons (dC (.it 0)) (dCons (dOp oMulA (dTup (dCons (dTup (dCons (dC (.it 1)) (dCons (dC (.it 1)) dNil))) dNil)) (dC (.it 6))) dNil))) (dCons (dTup (dCons (dC (.it 0)) (dCons (dTup dNil) dNil))) dNil))) dNil)))) (dRet (dC (.bl false))) dNext)
def r_law_2 : DS_ := dSeq d_law_2 r_law_3
def d_law_1 : DS_ := (dSetN 13 (dLc (dSeqI (dLst (dCons (dC (.it 6)) (dCons (dC (.it 7)) dNil)))) (dgName 8) dYes (dOp oAdd (dOp oAdd (dC (.st "0:")) (dJoin (dC (.st ",")) (dOp oMulA (dLst (dCons (dC (.st "1-1")) dNil)) (dVar 8)))) (dC (.st " 0:"))) [8]))
def r_law_1 : DS_ := dSeq d_law_1 r_law_2
def d_law_0 : DS_ := (dFor (dRng1 (dCons (dC (.it 5)) dNil)) (dgName 2) r_law_0b_0)
def r_law_0 : DS_ := dSeq d_law_0 r_law_1
def d_law : DS_ := r_law_0
theorem w_law {f : Addr} {k : Nat} (G : Gs K mg) (hsys : ∃ o, base.get? sysModules = some o) (C__law_book : Cal P w K mg base k "_law_book" ["_law_box", "_law_most", "_law_size", "_law_wide"] sp__law_book) (C__law_changed : Cal P w K mg base k "_law_changed" ["_law_box", "_law_text"] sp__law_changed) (C__law_due_book : Cal P w K mg base k "_law_due_book" ["_law_value"] sp__law_due_book) (C__law_due_payments : Cal P w K mg base k "_law_due_payments" ["_law_book_here", "_law_value"] sp__law_due_payments) (C__law_odd : Cal P w K mg base k "_law_odd" ["_law_box"] sp__law_odd) (C__law_one : Cal P w K mg base k "_law_one" ["_law_box", "_law_items"] sp__law_one) (C__law_payments : Cal P w K mg base k "_law_payments" ["_law_box", "_law_book_here"] sp__law_payments) (C__law_told : Cal P w K mg base k "_law_told" ["_law_book_here", "_law_value"] sp__law_told) (C_book_text : Cal P w K mg base k "book_text" ["book"] sp_book_text) (C_payments_text : Cal P w K mg base k "payments_text" ["payments"] sp_payments_text) (cdv : Value) (A : Around) (outer : List Env) (s : Shared) (H : Hp) (E : XK) (hr : Room k (A.deeper (envOfC "law" (defScope s_law) s.heap.objs.size f cdv))) (hgd : A.guards = some []) :
    DSs (cxD P w K mg base N_law "law" (defScope s_law) f cdv A outer s H E) E ((defBody s_law).drop 1) d_law := by
  have h : DSs (cxD P w K mg base N_law "law" (defScope s_law) f cdv A outer s H E) E ((defBody s_law).drop 1) _ := (ds_cons (ds_for (passes_of rfl) rfl (di_range1 rfl G.g_range (da_cons de_int da_nil)) (dg_name 2 sc_law.nd) (ds_cons (ds_set 3 (de_call C__law_book hr hgd passD rfl (da_cons (de_var 1) (da_cons (de_ix (de_lst (da_cons de_int (da_cons de_int da_nil))) (de_mod (de_var 2) de_int)) (da_cons (de_ix (de_lst (da_cons de_int (da_cons de_int da_nil))) (de_mod (de_var 2) de_int)) (da_cons (de_ix (de_lst (da_cons de_int (da_cons (de_pow de_int de_int) (da_cons de_int da_nil)))) (de_mod (de_var 2) de_int)) da_nil))))) sc_law.nd) (ds_cons (ds_par (i := 4) (j := 5) rfl sc_law.nd (da_cons (de_call C_book_text hr hgd passD rfl (da_cons (de_var 3) da_nil)) (da_cons (de_call C_payments_text hr hgd passD rfl (da_cons (de_call C__law_payments hr hgd passD rfl (da_cons (de_var 1) (da_cons (de_var 3) da_nil))) da_nil)) da_nil)) rfl) (ds_cons (ds_setO 6 (dn_lst (da_cons (de_var 4) (da_cons (de_var 5) (da_cons de_str (da_cons de_str (da_cons de_str (da_cons de_str (da_cons de_str (da_cons de_str (da_cons de_str (da_cons (de_call C__law_odd hr hgd passD rfl (da_cons (de_var 1) da_nil)) da_nil))))))))))) sc_law.nd) (ds_cons (ds_set 7 (de_mulTx de_str de_int) sc_law.nd) (ds_cons (ds_frz 6 (ds_setO 6 (dn_cat (de_var 6) (de_lst (da_cons (de_lst (da_cons (de_var 4) da_nil)) (da_cons (de_tup (da_cons (de_var 4) da_nil)) (da_cons de_non (da_cons (de_var 7) (da_cons (de_add (de_var 7) de_str) (da_cons (de_add (de_add de_str (de_var 7)) de_str) (da_cons (de_add (de_add de_str (de_var 7)) de_str) da_nil))))))))) sc_law.nd)) (ds_cons (ds_append 6 (de_join de_str (de_mulA (de_lst (da_cons de_str da_nil)) (de_call C__law_one hr hgd passD rfl (da_cons (de_var 1) (da_cons (de_lst (da_cons de_int (da_cons de_int da_nil))) da_nil)))))) (ds_cons (ds_for (passes_of rfl) rfl (di_range1 rfl G.g_range (da_cons de_int da_nil)) (dg_name 8 sc_law.nd) (ds_cons (ds_par (i := 9) (j := 10) rfl sc_law.nd (da_cons (de_call C__law_changed hr hgd passD rfl (da_cons (de_var 1) (da_cons (de_var 4) da_nil))) (da_cons (de_call C__law_changed hr hgd passD rfl (da_cons (de_var 1) (da_cons (de_var 5) da_nil))) da_nil)) rfl) (ds_one (ds_frz 6 (ds_setO 6 (dn_cat (de_var 6) (de_lst (da_cons (de_var 9) (da_cons (de_var 10) (da_cons (de_call C__law_changed hr hgd passD rfl (da_cons (de_var 1) (da_cons (de_var 9) da_nil))) (da_cons (de_call C__law_changed hr hgd passD rfl (da_cons (de_var 1) (da_cons (de_var 10) da_nil))) da_nil)))))) sc_law.nd))))) (ds_one (ds_frz 6 (ds_for (passes_of rfl) rfl (di_seq (de_var 6)) (dg_name 11 sc_law.nd) (ds_cons (ds_set 12 (de_repr hr hgd hsys rfl G.g_repr (da_cons (de_var 11) da_nil)) sc_law.nd) (ds_cons (ds_if (db_ne hr (de_repr hr hgd hsys rfl G.g_repr (da_cons (de_call C__law_told hr hgd passD rfl (da_cons de_non (da_cons (de_var 11) da_nil))) da_nil)) (de_repr hr hgd hsys rfl G.g_repr (da_cons (de_call C__law_due_book hr hgd passD rfl (da_cons (de_var 11) da_nil)) da_nil))) (ds_one (ds_ret de_bl)) ds_nil) (ds_one (ds_if (DW.toDB (dw_or (db_ne hr (de_repr hr hgd hsys rfl G.g_repr (da_cons (de_call C__law_told hr hgd passD rfl (da_cons (de_var 3) (da_cons (de_var 11) da_nil))) da_nil)) (de_repr hr hgd hsys rfl G.g_repr (da_cons (de_call C__law_due_payments hr hgd passD rfl (da_cons (de_var 3) (da_cons (de_var 11) da_nil))) da_nil))) (dw_or1 (db_ne hr (de_repr hr hgd hsys rfl G.g_repr (da_cons (de_var 11) da_nil)) (de_var 12))))) (ds_one (ds_ret de_bl)) ds_nil))))))))))))))) (ds_cons (ds_setLcN 13 rfl sc_law.nd (di_seq (de_lst (da_cons de_int (da_cons de_int da_nil)))) (own := [("_law_k", 8)]) (blkOk_by (by show blkC N_law (defScope s_law) _ _ = true; decide +kernel)) (vsg := [8]) (by decide) (fun s H C cl fp => (dg_name 8 sc_law.nd)) (fun s H C cl fp => dts_nil) (fun s H C cl fp => (de_add (de_add de_str (de_join de_str (de_mulA (de_lst (da_cons de_str da_nil)) (de_var 8)))) de_str)) rfl) (ds_cons (ds_if (db_ne hr (de_repr hr hgd hsys rfl G.g_repr (da_cons (de_call C__law_told hr hgd passD rfl (da_cons de_non (da_cons (de_ix (de_var 13) de_int) da_nil))) da_nil)) (de_repr hr hgd hsys rfl G.g_repr (da_cons (de_tup (da_cons (de_tup (da_cons de_int (da_cons (de_mulA (de_tup (da_cons (de_tup (da_cons de_int (da_cons de_int da_nil))) da_nil)) de_int) da_nil))) (da_cons (de_tup (da_cons de_int (da_cons (de_tup da_nil) da_nil))) da_nil))) da_nil))) (ds_one (ds_ret de_bl)) ds_nil) (ds_one (ds_ret (de_eq hr (de_lst (da_cons (de_call C__law_told hr hgd passD rfl (da_cons de_non (da_cons (de_ix (de_var 13) de_int) da_nil))) (da_cons (de_call C__law_told hr hgd passD rfl (da_cons de_non (da_cons de_str da_nil))) da_nil))) (de_lst (da_cons (de_lst (da_cons de_int da_nil)) (da_cons (de_lst (da_cons de_int da_nil)) da_nil)))))))))
  exact h
end
theorem law_is_integer : ∀ ds Q E, sp_is_integer ds Q E → d_is_integer { nx := fun _ => Q .non, rt := Q, ex := E } (dstart 3 ds) := by
  rintro ds Qd E ⟨value_1, low_2, high_3, Q, rfl, hr, q⟩
  have m : Me [some (.v (eA value_1)), some (.v (eI low_2)), some (.v (eI high_3))] [.v (eA value_1), .v (eI low_2), .v (eI high_3)] := (me_of [.v (eA value_1), .v (eI low_2), .v (eI high_3)]).sub (by repeat (first | exact True.intro | refine And.intro rfl ?_))
  have h : TS [some (.v (eA value_1)), some (.v (eI low_2)), some (.v (eI high_3))] (d_is_integer) { nx := fun _ => Qd .non, rt := Qd, ex := E } (((bindW (bindW (pureW value_1) fun x => pureW (isT "int" (eA x))) fun c => ifW c (bindW (bindW (bindW (pureW value_1) fun x => pureW (isT "bool" (eA x))) fun c => pureW (!c)) fun c => ifW c (bindW (pureW low_2) fun x => bindW (bindW (pureW value_1) (asW eI)) fun y => bindW (leI x y) fun c => ifW c (bindW (pureW high_3) fun z => leI y z) (pureW false)) (pureW false)) (pureW false)) Q E)) := by
    simp only [d_is_integer, d_is_integer_0, r_is_integer_0]
    exact (ts_ret hr (te_and (te_isi (te_var 0 (x := value_1) (e := eA) rfl)) (te_and (te_not (te_isi (te_var 0 (x := value_1) (e := eA) rfl))) (te_chain o_le o_le (te_var 1 (x := low_2) (e := eI) rfl) (te_as (te_var 0 (x := value_1) (e := eA) rfl)) (te_var 2 (x := high_3) (e := eI) rfl)))))
  exact h _ m (u_is_integer value_1 low_2 high_3 Q E q)
theorem law_debt_of : ∀ ds Q E, sp_debt_of ds Q E → d_debt_of { nx := fun _ => Q .non, rt := Q, ex := E } (dstart 3 ds) := by
  rintro ds Qd E ⟨pile_4, Q, rfl, hr, q⟩
  have m : Me [some (.v ((eT (eP eI eI)) pile_4)), none, none] [.v ((eT (eP eI eI)) pile_4), .no, .no] := (me_of [.v ((eT (eP eI eI)) pile_4), .no, .no]).sub (by repeat (first | exact True.intro | refine And.intro rfl ?_))
  have h : TS [some (.v ((eT (eP eI eI)) pile_4)), none, none] (d_debt_of) { nx := fun _ => Qd .non, rt := Qd, ex := E } (((bindW (bindW (pureW pile_4) fun xs => lcW (fun a_5 => (pureW true)) (fun a_5 => (pureW a_5.2)) xs) sumW) Q E)) := by
    simp only [d_debt_of, d_debt_of_0, r_debt_of_0]
    exact (ts_ret hr (te_cb1 o_sumAL (te_frz (tn_lc (ps1 := fun a_5 => [some (.v ((eT (eP eI eI)) pile_4)), some (.v (eI a_5.1)), some (.v (eI a_5.2))]) (ti_T (te_var 0 (x := pile_4) (e := (eT (eP eI eI))) rfl)) (fun a_5 => (tg_tup rfl (tgs_cons (tg_name 1) (tgs_cons (tg_name 2) tgs_nil)))) (fun a_5 => tb_yes) (fun a_5 => (te_var 2 (x := a_5.2) (e := eI) rfl))))))
  exact h _ m (u_debt_of pile_4 Q E q)
theorem law_debts : ∀ ds Q E, sp_debts ds Q E → d_debts { nx := fun _ => Q .non, rt := Q, ex := E } (dstart 3 ds) := by
  rintro ds Qd E ⟨book_6, Q, rfl, hr, q⟩
  have m : Me [some (.v ((eT (eP eI (eT (eP eI eI)))) book_6)), none, none] [.v ((eT (eP eI (eT (eP eI eI)))) book_6), .no, .no] := (me_of [.v ((eT (eP eI (eT (eP eI eI)))) book_6), .no, .no]).sub (by repeat (first | exact True.intro | refine And.intro rfl ?_))
  have h : TS [some (.v ((eT (eP eI (eT (eP eI eI)))) book_6)), none, none] (d_debts) { nx := fun _ => Qd .non, rt := Qd, ex := E } (((bindW (bindW (pureW book_6) fun xs => lcW (fun a_7 => (pureW true)) (fun a_7 => (bindW (pureW a_7.2) fun x0 => t_debt_of x0)) xs) sameW) Q E)) := by
    simp only [d_debts, d_debts_0, r_debts_0]
    exact (ts_ret hr (te_cb1 o_tupleL (te_frz (tn_lc (ps1 := fun a_7 => [some (.v ((eT (eP eI (eT (eP eI eI)))) book_6)), some (.v (eI a_7.1)), some (.v ((eT (eP eI eI)) a_7.2))]) (ti_T (te_var 0 (x := book_6) (e := (eT (eP eI (eT (eP eI eI))))) rfl)) (fun a_7 => (tg_tup rfl (tgs_cons (tg_name 1) (tgs_cons (tg_name 2) tgs_nil)))) (fun a_7 => tb_yes) (fun a_7 => (te_call1 c_debt_of (te_var 2 (x := a_7.2) (e := (eT (eP eI eI))) rfl)))))))
  exact h _ m (u_debts t_debt_of book_6 Q E q)
theorem law_number_in : ∀ ds Q E, sp_number_in ds Q E → d_number_in { nx := fun _ => Q .non, rt := Q, ex := E } (dstart 2 ds) := by
  rintro ds Qd E ⟨word_8, Q, rfl, hr, q⟩
  have m : Me [some (.v (eS word_8)), none] [.v (eS word_8), .no] := (me_of [.v (eS word_8), .no]).sub (by repeat (first | exact True.intro | refine And.intro rfl ?_))
  have h : TS [some (.v (eS word_8)), none] (d_number_in) { nx := fun _ => Qd .non, rt := Qd, ex := E } (bindP (bindW (bindW (bindW (pureW (1 : Int)) fun x => bindW (bindW (pureW word_8) lenS) fun y => bindW (leI x y) fun c => ifW c (bindW (pureW (13 : Int)) fun z => leI y z) (pureW false)) fun c => pureW (!c)) fun c => ifW c (pureW true) (bindW (bindW (bindW (bindW (pureW word_8) fun z => pureW (sgns z)) fun xs => lcW (fun a_9 => (pureW true)) (fun a_9 => (bindW (pureW a_9) fun x => bindW (pureW ("0123456789" : Str)) fun y => inSW x y)) xs) allW) fun c => pureW (!c))) (fun b => ifP b (((bindW (pureW ()) fun _ => pureW (none : (Option Int))) Q E)) (((bindW (bindW (bindW (bindW (pureW word_8) fun x => bindW (pureW (0 : Int)) fun y => ixS x y) fun x => bindW (pureW ("0" : Str)) fun y => eqW x y) fun c => ifW c (bindW (pureW word_8) fun x => bindW (pureW ("0" : Str)) fun y => neW x y) (pureW false)) fun c => ifW c (bindW (pureW ()) fun _ => pureW (none : (Option Int))) (bindW (bindW (pureW word_8) intSW) fun x => pureW (some x))) Q E))) E) := by
    simp only [d_number_in, d_number_in_1, r_number_in_1, d_number_in_0, r_number_in_0]
    exact (ts_seq0 (ts_if (tb_or (tb_not (tb_tst (te_chain o_le o_le (te_int 1) (te_cb1 o_lenS (te_var 0 (x := word_8) (e := eS) rfl)) (te_int 13)))) (tb_not (tb_tst (te_cb1 o_all (te_frz (tn_lc (ps1 := fun a_9 => [some (.v (eS word_8)), some (.v (eS a_9))]) (ti_S (te_var 0 (x := word_8) (e := eS) rfl)) (fun a_9 => (tg_name 1)) (fun a_9 => tb_yes) (fun a_9 => (te_op o_inS (te_var 1 (x := a_9) (e := eS) rfl) (te_str "0123456789"))))))))) (ts_ret hr (te_co (e' := (eO eI)) (fun _ => none) (fun _ => rfl) te_non)) (ts_via (ts_ret hr (te_if (tb_and (tb_tst (te_op (o_eq eq_S (by decide) ni_S) (te_op o_ixS (te_var 0 (x := word_8) (e := eS) rfl) (te_int 0)) (te_str "0"))) (tb_tst (te_op (o_ne eq_S (by decide) ni_S) (te_var 0 (x := word_8) (e := eS) rfl) (te_str "0")))) (te_co (e' := (eO eI)) (fun _ => none) (fun _ => rfl) te_non) (te_co (e' := (eO eI)) (fun x => some x) (fun _ => rfl) (te_cb1 o_intS (te_var 0 (x := word_8) (e := eS) rfl))))))))
  exact h _ m (u_number_in word_8 Q E q)
theorem law_slip_text : ∀ ds Q E, sp_slip_text ds Q E → d_slip_text { nx := fun _ => Q .non, rt := Q, ex := E } (dstart 1 ds) := by
  rintro ds Qd E ⟨slip_10, Q, rfl, hr, q⟩
  have m : Me [some (.v ((eP eI eI) slip_10))] [.v ((eP eI eI) slip_10)] := (me_of [.v ((eP eI eI) slip_10)]).sub (by repeat (first | exact True.intro | refine And.intro rfl ?_))
  have h : TS [some (.v ((eP eI eI) slip_10))] (d_slip_text) { nx := fun _ => Qd .non, rt := Qd, ex := E } (((bindW (bindW (bindW (bindW (pureW slip_10) fun p => pureW p.1) strW) fun y => bindW (partW y) fun x => bindW (bindW (pureW ("-" : Str)) fun y => bindW (partW y) fun x => bindW (bindW (bindW (bindW (pureW slip_10) fun p => pureW p.2) strW) fun y => bindW (partW y) fun x => bindW (pureW []) fun xs => pureW (x :: xs)) fun xs => pureW (x :: xs)) fun xs => pureW (x :: xs)) fcatW) Q E)) := by
    simp only [d_slip_text, d_slip_text_0, r_slip_text_0]
    exact (ts_ret hr (te_fstr (tj_cons (te_fmtI (te_prj (e := (eP eI eI)) (k := 0) (e' := eI) (fun p => p.1) (fun _ _ q => q) (te_var 0 (x := slip_10) (e := (eP eI eI)) rfl))) (tj_cons (te_str "-") (tj_cons (te_fmtI (te_prj (e := (eP eI eI)) (k := 1) (e' := eI) (fun p => p.2) (fun _ _ q => q) (te_var 0 (x := slip_10) (e := (eP eI eI)) rfl))) tj_nil)))))
  exact h _ m (u_slip_text slip_10 Q E q)
theorem law_house_text : ∀ ds Q E, sp_house_text ds Q E → d_house_text { nx := fun _ => Q .non, rt := Q, ex := E } (dstart 4 ds) := by
  rintro ds Qd E ⟨house_11, Q, rfl, hr, q⟩
  have m : Me [some (.v ((eP eI (eT (eP eI eI))) house_11)), none, none, none] [.v ((eP eI (eT (eP eI eI))) house_11), .no, .no, .no] := (me_of [.v ((eP eI (eT (eP eI eI))) house_11), .no, .no, .no]).sub (by repeat (first | exact True.intro | refine And.intro rfl ?_))
  have h : TS [some (.v ((eP eI (eT (eP eI eI))) house_11)), none, none, none] (d_house_text) { nx := fun _ => Qd .non, rt := Qd, ex := E } (bindP (pureW house_11) (fun z_12 => ((bindW (bindW (bindW (bindW (pureW z_12.1) strW) fun y => bindW (partW y) fun x => bindW (bindW (pureW (":" : Str)) fun y => bindW (partW y) fun x => bindW (pureW []) fun xs => pureW (x :: xs)) fun xs => pureW (x :: xs)) fcatW) fun x => bindW (bindW (pureW ("," : Str)) fun x => bindW (bindW (pureW z_12.2) fun xs => lcW (fun a_13 => (pureW true)) (fun a_13 => (bindW (pureW a_13) fun x0 => t_slip_text x0)) xs) fun y => joinW x y) fun y => catS x y) Q E)) E) := by
    simp only [d_house_text, d_house_text_1, r_house_text_1, d_house_text_0, r_house_text_0]
    exact (ts_asg (ps1 := fun z_12 => [some (.v ((eP eI (eT (eP eI eI))) house_11)), some (.v (eI z_12.1)), some (.v ((eT (eP eI eI)) z_12.2)), none]) (te_var 0 (x := house_11) (e := (eP eI (eT (eP eI eI)))) rfl) (fun z_12 => (tg_tup rfl (tgs_cons (tg_name 1) (tgs_cons (tg_name 2) tgs_nil)))) (fun z_12 => (ts_ret hr (te_op o_catS (te_fstr (tj_cons (te_fmtI (te_var 1 (x := z_12.1) (e := eI) rfl)) (tj_cons (te_str ":") tj_nil))) (te_joinS (te_str ",") (te_frz (tn_lc (ps1 := fun a_13 => [some (.v ((eP eI (eT (eP eI eI))) house_11)), some (.v (eI z_12.1)), some (.v ((eT (eP eI eI)) z_12.2)), some (.v ((eP eI eI) a_13))]) (ti_T (te_var 2 (x := z_12.2) (e := (eT (eP eI eI))) rfl)) (fun a_13 => (tg_name 3)) (fun a_13 => tb_yes) (fun a_13 => (te_call1 c_slip_text (te_var 3 (x := a_13) (e := (eP eI eI)) rfl))))))))))
  exact h _ m (u_house_text t_slip_text house_11 Q E q)
theorem law_book_text : ∀ ds Q E, sp_book_text ds Q E → d_book_text { nx := fun _ => Q .non, rt := Q, ex := E } (dstart 2 ds) := by
  rintro ds Qd E ⟨book_14, Q, rfl, hr, q⟩
  have m : Me [some (.v ((eT (eP eI (eT (eP eI eI)))) book_14)), none] [.v ((eT (eP eI (eT (eP eI eI)))) book_14), .no] := (me_of [.v ((eT (eP eI (eT (eP eI eI)))) book_14), .no]).sub (by repeat (first | exact True.intro | refine And.intro rfl ?_))
  have h : TS [some (.v ((eT (eP eI (eT (eP eI eI)))) book_14)), none] (d_book_text) { nx := fun _ => Qd .non, rt := Qd, ex := E } (((bindW (pureW (" " : Str)) fun x => bindW (bindW (pureW book_14) fun xs => lcW (fun a_15 => (pureW true)) (fun a_15 => (bindW (pureW a_15) fun x0 => t_house_text x0)) xs) fun y => joinW x y) Q E)) := by
    simp only [d_book_text, d_book_text_0, r_book_text_0]
    exact (ts_ret hr (te_joinS (te_str " ") (te_frz (tn_lc (ps1 := fun a_15 => [some (.v ((eT (eP eI (eT (eP eI eI)))) book_14)), some (.v ((eP eI (eT (eP eI eI))) a_15))]) (ti_T (te_var 0 (x := book_14) (e := (eT (eP eI (eT (eP eI eI))))) rfl)) (fun a_15 => (tg_name 1)) (fun a_15 => tb_yes) (fun a_15 => (te_call1 c_house_text (te_var 1 (x := a_15) (e := (eP eI (eT (eP eI eI)))) rfl)))))))
  exact h _ m (u_book_text t_house_text book_14 Q E q)
theorem law_payments_text : ∀ ds Q E, sp_payments_text ds Q E → d_payments_text { nx := fun _ => Q .non, rt := Q, ex := E } (dstart 2 ds) := by
  rintro ds Qd E ⟨payments_16, Q, rfl, hr, q⟩
  have m : Me [some (.v ((eT eI) payments_16)), none] [.v ((eT eI) payments_16), .no] := (me_of [.v ((eT eI) payments_16), .no]).sub (by repeat (first | exact True.intro | refine And.intro rfl ?_))
  have h : TS [some (.v ((eT eI) payments_16)), none] (d_payments_text) { nx := fun _ => Qd .non, rt := Qd, ex := E } (((bindW (pureW (" " : Str)) fun x => bindW (bindW (pureW payments_16) fun xs => lcW (fun a_17 => (pureW true)) (fun a_17 => (bindW (pureW a_17) strW)) xs) fun y => joinW x y) Q E)) := by
    simp only [d_payments_text, d_payments_text_0, r_payments_text_0]
    exact (ts_ret hr (te_joinS (te_str " ") (te_frz (tn_lc (ps1 := fun a_17 => [some (.v ((eT eI) payments_16)), some (.v (eI a_17))]) (ti_T (te_var 0 (x := payments_16) (e := (eT eI)) rfl)) (fun a_17 => (tg_name 1)) (fun a_17 => tb_yes) (fun a_17 => (te_cb1 o_str (te_var 1 (x := a_17) (e := eI) rfl)))))))
  exact h _ m (u_payments_text payments_16 Q E q)
theorem law_slip_in : ∀ ds Q E, sp_slip_in ds Q E → d_slip_in { nx := fun _ => Q .non, rt := Q, ex := E } (dstart 3 ds) := by
  rintro ds Qd E ⟨word_18, Q, rfl, hr, q⟩
  have m : Me [some (.v (eS word_18)), none, none] [.v (eS word_18), .no, .no] := (me_of [.v (eS word_18), .no, .no]).sub (by repeat (first | exact True.intro | refine And.intro rfl ?_))
  have h : TS [some (.v (eS word_18)), none, none] (d_slip_in) { nx := fun _ => Qd .non, rt := Qd, ex := E } (bindP (bindW (bindW (pureW word_18) fun x => bindW (pureW ("-" : Str)) fun y => splW x y) fun xs => lcW (fun a_20 => (pureW true)) (fun a_20 => (bindW (pureW a_20) fun x0 => t_number_in x0)) xs) (fun numbers_19 => bindP (bindW (bindW (bindW (pureW numbers_19) lenW) fun x => bindW (pureW (2 : Int)) fun y => neI x y) fun c => ifW c (pureW true) (bindW (bindW (bindW (bindW (pureW numbers_19) fun x => bindW (pureW (0 : Int)) fun y => ixW x y) fun x => pureW ((eO eI) x)) fun x0 => bindW (pureW (0 : Int)) fun x1 => bindW (bindW (pureW (6 : Int)) fun x => bindW (pureW (1 : Int)) fun y => subI x y) fun x2 => t_is_integer x0 x1 x2) fun c => pureW (!c))) (fun b => ifP b (((bindW (pureW ()) fun _ => pureW (none : (Option (Int × Int)))) Q E)) (((bindW (bindW (bindW (bindW (pureW numbers_19) fun x => bindW (pureW (1 : Int)) fun y => ixW x y) fun x => pureW ((eO eI) x)) fun x0 => bindW (pureW (1 : Int)) fun x1 => bindW (pureW (1000000000 : Int)) fun x2 => t_is_integer x0 x1 x2) fun c => ifW c (bindW (bindW (bindW (bindW (pureW numbers_19) fun x => bindW (pureW (0 : Int)) fun y => ixW x y) getW) fun x => bindW (bindW (bindW (pureW numbers_19) fun x => bindW (pureW (1 : Int)) fun y => ixW x y) getW) fun y => pureW (x, y)) fun x => pureW (some x)) (bindW (pureW ()) fun _ => pureW (none : (Option (Int × Int))))) Q E))) E) E) := by
    simp only [d_slip_in, d_slip_in_2, r_slip_in_2, d_slip_in_1, r_slip_in_1, d_slip_in_0, r_slip_in_0]
    exact (ts_setN 1 (tn_lc (ps1 := fun a_20 => [some (.v (eS word_18)), none, some (.v (eS a_20))]) (ti_L (te_frz (tn_split (te_var 0 (x := word_18) (e := eS) rfl) (te_str "-")))) (fun a_20 => (tg_name 2)) (fun a_20 => tb_yes) (fun a_20 => (te_call1 c_number_in (te_var 2 (x := a_20) (e := eS) rfl)))) (fun numbers_19 => (ts_seq0 (ts_if (tb_or (tb_tst (te_op o_neI (te_cb1 o_lenL (te_var 1 (x := numbers_19) (e := (eL (eO eI))) rfl)) (te_int 2))) (tb_not (tb_tst (te_call3 c_is_integer (te_co (eO eI) (fun _ => rfl) (te_op o_ixL (te_var 1 (x := numbers_19) (e := (eL (eO eI))) rfl) (te_int 0))) (te_int 0) (te_op o_sub (te_int 6) (te_int 1)))))) (ts_ret hr (te_co (e' := (eO (eP eI eI))) (fun _ => none) (fun _ => rfl) te_non)) (ts_via (ts_ret hr (te_if (tb_tst (te_call3 c_is_integer (te_co (eO eI) (fun _ => rfl) (te_op o_ixL (te_var 1 (x := numbers_19) (e := (eL (eO eI))) rfl) (te_int 1))) (te_int 1) (te_int 1000000000))) (te_co (e' := (eO (eP eI eI))) (fun x => some x) (fun _ => rfl) (te_tup2 (te_get (te_op o_ixL (te_var 1 (x := numbers_19) (e := (eL (eO eI))) rfl) (te_int 0))) (te_get (te_op o_ixL (te_var 1 (x := numbers_19) (e := (eL (eO eI))) rfl) (te_int 1))))) (te_co (e' := (eO (eP eI eI))) (fun _ => none) (fun _ => rfl) te_non))))))))
  exact h _ m (u_slip_in t_number_in t_is_integer word_18 Q E q)
theorem law_house_in : ∀ ds Q E, sp_house_in ds Q E → d_house_in { nx := fun _ => Q .non, rt := Q, ex := E } (dstart 4 ds) := by
  rintro ds Qd E ⟨word_21, Q, rfl, hr, q⟩
  have m : Me [some (.v (eS word_21)), none, none, none] [.v (eS word_21), .no, .no, .no] := (me_of [.v (eS word_21), .no, .no, .no]).sub (by repeat (first | exact True.intro | refine And.intro rfl ?_))
  have h : TS [some (.v (eS word_21)), none, none, none] (d_house_in) { nx := fun _ => Qd .non, rt := Qd, ex := E } (bindP (bindW (pureW word_21) fun x => bindW (pureW (":" : Str)) fun y => splW x y) (fun parts_22 => bindP (bindW (bindW (bindW (pureW parts_22) lenW) fun x => bindW (pureW (2 : Int)) fun y => neI x y) fun c => ifW c (pureW true) (bindW (bindW (bindW (bindW (bindW (pureW parts_22) fun x => bindW (pureW (0 : Int)) fun y => ixW x y) fun x0 => t_number_in x0) fun x => pureW ((eO eI) x)) fun x0 => bindW (pureW (0 : Int)) fun x1 => bindW (pureW (1000000000000 : Int)) fun x2 => t_is_integer x0 x1 x2) fun c => pureW (!c))) (fun b => ifP b (((bindW (pureW ()) fun _ => pureW (none : (Option (Int × (List (Int × Int)))))) Q E)) (bindP (bindW (bindW (bindW (pureW parts_22) fun x => bindW (pureW (1 : Int)) fun y => ixW x y) fun x => bindW (pureW ("" : Str)) fun y => neW x y) fun c => ifW c (bindW (bindW (bindW (pureW parts_22) fun x => bindW (pureW (1 : Int)) fun y => ixW x y) fun x => bindW (pureW ("," : Str)) fun y => splW x y) fun xs => lcW (fun a_25 => (pureW true)) (fun a_25 => (bindW (pureW a_25) fun x0 => t_slip_in x0)) xs) (bindW (pureW []) szW)) (fun slips_23 => bindP (bindW (bindW (bindW (pureW ()) fun _ => pureW (none : (Option (Int × Int)))) fun x => bindW (pureW slips_23) fun y => inW x y) fun c => ifW c (pureW true) (bindW (bindW (pureW slips_23) lenW) fun x => bindW (pureW (6 : Int)) fun y => gtI x y)) (fun b => ifP b (((bindW (pureW ()) fun _ => pureW (none : (Option (Int × (List (Int × Int)))))) Q E)) (((bindW (bindW (bindW (bindW (bindW (pureW parts_22) fun x => bindW (pureW (0 : Int)) fun y => ixW x y) fun x0 => t_number_in x0) getW) fun x => bindW (bindW (bindW (pureW slips_23) sameW) getAllW) fun y => pureW (x, y)) fun x => pureW (some x)) Q E))) E) E)) E) E) := by
    simp only [d_house_in, d_house_in_4, r_house_in_4, d_house_in_3, r_house_in_3, d_house_in_2, r_house_in_2, d_house_in_1, r_house_in_1, d_house_in_0, r_house_in_0]
    exact (ts_set 1 (te_frz (tn_split (te_var 0 (x := word_21) (e := eS) rfl) (te_str ":"))) (fun parts_22 => (ts_seq0 (ts_if (tb_or (tb_tst (te_op o_neI (te_cb1 o_lenL (te_var 1 (x := parts_22) (e := (eL eS)) rfl)) (te_int 2))) (tb_not (tb_tst (te_call3 c_is_integer (te_co (eO eI) (fun _ => rfl) (te_call1 c_number_in (te_op o_ixL (te_var 1 (x := parts_22) (e := (eL eS)) rfl) (te_int 0)))) (te_int 0) (te_int 1000000000000))))) (ts_ret hr (te_co (e' := (eO (eP eI (eT (eP eI eI))))) (fun _ => none) (fun _ => rfl) te_non)) (ts_via (ts_set 2 (te_if (tb_tst (te_op (o_ne eq_S (by decide) ni_S) (te_op o_ixL (te_var 1 (x := parts_22) (e := (eL eS)) rfl) (te_int 1)) (te_str ""))) (te_frz (tn_lc (ps1 := fun a_25 => [some (.v (eS word_21)), some (.v ((eL eS) parts_22)), none, some (.v (eS a_25))]) (ti_L (te_frz (tn_split (te_op o_ixL (te_var 1 (x := parts_22) (e := (eL eS)) rfl) (te_int 1)) (te_str ",")))) (fun a_25 => (tg_name 3)) (fun a_25 => tb_yes) (fun a_25 => (te_call1 c_slip_in (te_var 3 (x := a_25) (e := eS) rfl))))) (te_lstL (tl_nil : TL _ _ (eO (eP eI eI)) _))) (fun slips_23 => (ts_seq0 (ts_if (tb_or (tb_tst (te_op (o_inL (eq_O nn_P (eq_P eq_I eq_I)) (by decide)) (te_co (e' := (eO (eP eI eI))) (fun _ => none) (fun _ => rfl) te_non) (te_var 2 (x := slips_23) (e := (eL (eO (eP eI eI)))) rfl))) (tb_tst (te_op o_gt (te_cb1 o_lenL (te_var 2 (x := slips_23) (e := (eL (eO (eP eI eI)))) rfl)) (te_int 6)))) (ts_ret hr (te_co (e' := (eO (eP eI (eT (eP eI eI))))) (fun _ => none) (fun _ => rfl) te_non)) (ts_via (ts_ret hr (te_co (e' := (eO (eP eI (eT (eP eI eI))))) (fun x => some x) (fun _ => rfl) (te_tup2 (te_get (te_call1 c_number_in (te_op o_ixL (te_var 1 (x := parts_22) (e := (eL eS)) rfl) (te_int 0)))) (te_getAllT (te_cb1 o_tupleL (te_var 2 (x := slips_23) (e := (eL (eO (eP eI eI)))) rfl))))))))))))))))
  exact h _ m (u_house_in t_number_in t_is_integer t_slip_in word_21 Q E q)
theorem law_words_of : ∀ ds Q E, sp_words_of ds Q E → d_words_of { nx := fun _ => Q .non, rt := Q, ex := E } (dstart 1 ds) := by
  rintro ds Qd E ⟨value_26, Q, rfl, hr, q⟩
  have m : Me [some (.v (eA value_26))] [.v (eA value_26)] := (me_of [.v (eA value_26)]).sub (by repeat (first | exact True.intro | refine And.intro rfl ?_))
  have h : TS [some (.v (eA value_26))] (d_words_of) { nx := fun _ => Qd .non, rt := Qd, ex := E } (bindP (bindW (bindW (pureW value_26) fun x => pureW (isT "str" (eA x))) fun c => pureW (!c)) (fun b => ifP b (bindP (pureW ()) (fun z_27 => raiseP E "BadText" "index" (eN z_27)) E) (((bindW (bindW (pureW value_26) (asW eS)) fun x => bindW (pureW (" " : Str)) fun y => splW x y) Q E))) E) := by
    simp only [d_words_of, d_words_of_1, r_words_of_1, d_words_of_0, r_words_of_0]
    exact (ts_seq0 (ts_if (tb_not (tb_tst (te_isi (te_var 0 (x := value_26) (e := eA) rfl)))) (ts_raise te_non) (ts_via (ts_ret hr (te_frz (tn_split (te_as (te_var 0 (x := value_26) (e := eA) rfl)) (te_str " ")))))))
  exact h _ m (u_words_of value_26 Q E q)
theorem law_parse_book : ∀ ds Q E, sp_parse_book ds Q E → d_parse_book { nx := fun _ => Q .non, rt := Q, ex := E } (dstart 9 ds) := by
  rintro ds Qd E ⟨value_28, Q, rfl, hr, q⟩
  have m : Me [some (.v (eA value_28)), none, none, none, none, none, none, none, none] [.v (eA value_28), .no, .no, .no, .no, .no, .no, .no, .no] := (me_of [.v (eA value_28), .no, .no, .no, .no, .no, .no, .no, .no]).sub (by repeat (first | exact True.intro | refine And.intro rfl ?_))
  have h : TS [some (.v (eA value_28)), none, none, none, none, none, none, none, none] (d_parse_book) { nx := fun _ => Qd .non, rt := Qd, ex := E } (bindP (bindW (pureW []) szW) (fun found_29 => bindP (bindW (bindW (pureW value_28) fun x0 => t_words_of x0) fun xs => pureW (enI xs)) (fun xs => forP (fun x_36 (s_35 : (List (Int × (List (Int × Int))))) N_37 B_38 => bindP (bindW (pureW x_36.2) fun x0 => t_house_in x0) (fun house_42 => bindP (bindW (bindW (pureW house_42) fun x => pureW x.isNone) fun c => ifW c (pureW true) (bindW (pureW x_36.1) fun x => bindW (pureW (6 : Int)) fun y => geI x y)) (fun b => ifP b (bindP (pureW x_36.1) (fun z_43 => raiseP E "BadText" "index" (eI z_43)) E) (bindP (bindW (pureW house_42) getW) (fun z_44 => appP s_35 (N_37 (s_35 ++ [z_44]))) E)) E) E) (fun (s_35 : (List (Int × (List (Int × Int))))) => bindP (bindW (pureW s_35) fun xs => pureW (enI xs)) (fun xs => forP (fun x_50 (s_49 : Unit) N_51 B_52 => bindP (bindW (bindW (pureW x_50.2.2) fun xs => lcW (fun a_56 => (pureW true)) (fun a_56 => (bindW (bindW (pureW a_56.1) fun x => bindW (pureW x_50.1) fun y => eqI x y) fun c => ifW c (pureW true) (bindW (pureW a_56.1) fun x => bindW (bindW (pureW s_35) lenW) fun y => geI x y))) xs) anyW) (fun b => ifP b (bindP (pureW x_50.1) (fun z_57 => raiseP E "BadText" "index" (eI z_57)) E) (N_51 ())) E) (fun (s_49 : Unit) => ((bindW (pureW s_35) sameW) Q E)) xs ()) E) xs found_29) E) E) := by
    simp only [d_parse_book, d_parse_book_1b_2, r_parse_book_1b_2, d_parse_book_1b_1, r_parse_book_1b_1, d_parse_book_1b_0, r_parse_book_1b_0, d_parse_book_3, r_parse_book_3, d_parse_book_2, r_parse_book_2, d_parse_book_1, r_parse_book_1, d_parse_book_0, r_parse_book_0]
    exact (ts_setO 1 (tn_lst (tl_nil : TL _ _ (eP eI (eT (eP eI eI))) _)) (fun found_29 => (ts_for (fun (s_35 : (List (Int × (List (Int × Int))))) => [some (.v (eA value_28)), some (.own ((s_35 : (List (Int × (List (Int × Int))))).map (eP eI (eT (eP eI eI))))), none, none, none, none, none, none, none]) found_29 (ps1 := fun x_36 s_35 => [some (.v (eA value_28)), some (.own ((s_35 : (List (Int × (List (Int × Int))))).map (eP eI (eT (eP eI eI))))), some (.v (eI x_36.1)), some (.v (eS x_36.2)), none, none, none, none, none]) (ti_enL (te_call1 c_words_of (te_var 0 (x := value_28) (e := eA) rfl))) (by repeat (first | exact True.intro | refine And.intro rfl ?_)) (fun x_36 s_35 => (tg_tup rfl (tgs_cons (tg_name 2) (tgs_cons (tg_name 3) tgs_nil)))) (fun x_36 s_35 N_37 nx_40 hN_39 => (ts_set 4 (te_call1 c_house_in (te_var 3 (x := x_36.2) (e := eS) rfl)) (fun house_42 => (ts_seq0 (ts_if (tb_or (tb_tst (te_isNO nn_P (te_var 4 (x := house_42) (e := (eO (eP eI (eT (eP eI eI))))) rfl))) (tb_tst (te_op o_ge (te_var 2 (x := x_36.1) (e := eI) rfl) (te_int 6)))) (ts_raise (te_var 2 (x := x_36.1) (e := eI) rfl)) (ts_via (ts_last (ts_app 1 (xs := s_35) rfl (te_get (te_var 4 (x := house_42) (e := (eO (eP eI (eT (eP eI eI))))) rfl)) (fun z_44 => (ts_fall hN_39 (s_35 ++ [z_44]) (by repeat (first | exact True.intro | refine And.intro rfl ?_)))))))))))) (fun s_35 => (ts_frz 1 (xs := s_35) rfl (ts_for (fun (s_49 : Unit) => [some (.v (eA value_28)), some (.v ((eL (eP eI (eT (eP eI eI)))) s_35)), none, none, none, none, none, none, none]) () (ps1 := fun x_50 s_49 => [some (.v (eA value_28)), some (.v ((eL (eP eI (eT (eP eI eI)))) s_35)), some (.v (eI x_50.1)), none, none, some (.v (eI x_50.2.1)), some (.v ((eT (eP eI eI)) x_50.2.2)), none, none]) (ti_enL (te_var 1 (x := s_35) (e := (eL (eP eI (eT (eP eI eI))))) rfl)) (by repeat (first | exact True.intro | refine And.intro rfl ?_)) (fun x_50 s_49 => (tg_tup rfl (tgs_cons (tg_name 2) (tgs_cons (tg_tup rfl (tgs_cons (tg_name 5) (tgs_cons (tg_name 6) tgs_nil))) tgs_nil)))) (fun x_50 s_49 N_51 nx_54 hN_53 => (ts_last (ts_seq0 (ts_if (tb_tst (te_cb1 o_any (te_frz (tn_lc (ps1 := fun a_56 => [some (.v (eA value_28)), some (.v ((eL (eP eI (eT (eP eI eI)))) s_35)), some (.v (eI x_50.1)), none, none, some (.v (eI x_50.2.1)), some (.v ((eT (eP eI eI)) x_50.2.2)), some (.v (eI a_56.1)), some (.v (eI a_56.2))]) (ti_T (te_var 6 (x := x_50.2.2) (e := (eT (eP eI eI))) rfl)) (fun a_56 => (tg_tup rfl (tgs_cons (tg_name 7) (tgs_cons (tg_name 8) tgs_nil)))) (fun a_56 => tb_yes) (fun a_56 => (te_or (te_op o_eqI (te_var 7 (x := a_56.1) (e := eI) rfl) (te_var 2 (x := x_50.1) (e := eI) rfl)) (te_op o_ge (te_var 7 (x := a_56.1) (e := eI) rfl) (te_cb1 o_lenL (te_var 1 (x := s_35) (e := (eL (eP eI (eT (eP eI eI))))) rfl))))))))) (ts_raise (te_var 2 (x := x_50.1) (e := eI) rfl)) (ts_via (ts_fall hN_53 () (by repeat (first | exact True.intro | refine And.intro rfl ?_)))))))) (fun s_49 => (ts_ret hr (te_cb1 o_tupleL (te_var 1 (x := s_35) (e := (eL (eP eI (eT (eP eI eI))))) rfl))))))))))
  exact h _ m (u_parse_book t_words_of t_house_in value_28 Q E q)
theorem law_parse_payments : ∀ ds Q E, sp_parse_payments ds Q E → d_parse_payments { nx := fun _ => Q .non, rt := Q, ex := E } (dstart 7 ds) := by
  rintro ds Qd E ⟨book_58, value_59, Q, rfl, hr, q⟩
  have m : Me [some (.v ((eT (eP eI (eT (eP eI eI)))) book_58)), some (.v (eA value_59)), none, none, none, none, none] [.v ((eT (eP eI (eT (eP eI eI)))) book_58), .v (eA value_59), .no, .no, .no, .no, .no] := (me_of [.v ((eT (eP eI (eT (eP eI eI)))) book_58), .v (eA value_59), .no, .no, .no, .no, .no]).sub (by repeat (first | exact True.intro | refine And.intro rfl ?_))
  have h : TS [some (.v ((eT (eP eI (eT (eP eI eI)))) book_58)), some (.v (eA value_59)), none, none, none, none, none] (d_parse_payments) { nx := fun _ => Qd .non, rt := Qd, ex := E } (bindP (bindW (pureW value_59) fun x0 => t_words_of x0) (fun words_60 => bindP (bindW (pureW book_58) fun x0 => t_debts x0) (fun limits_61 => bindP (bindW (pureW []) szW) (fun found_62 => bindP (bindW (pureW words_60) fun xs => pureW (enI xs)) (fun xs => forP (fun x_68 (s_67 : (List Int)) N_69 B_70 => bindP (bindW (bindW (pureW x_68.1) fun x => bindW (bindW (pureW limits_61) lenW) fun y => geI x y) fun c => ifW c (pureW true) (bindW (bindW (bindW (bindW (pureW x_68.2) fun x0 => t_number_in x0) fun x => pureW ((eO eI) x)) fun x0 => bindW (pureW (0 : Int)) fun x1 => bindW (bindW (pureW limits_61) fun x => bindW (pureW x_68.1) fun y => ixW x y) fun x2 => t_is_integer x0 x1 x2) fun c => pureW (!c))) (fun b => ifP b (bindP (pureW x_68.1) (fun z_74 => raiseP E "BadText" "index" (eI z_74)) E) (bindP (bindW (bindW (pureW x_68.2) fun x0 => t_number_in x0) getW) (fun z_75 => appP s_67 (N_69 (s_67 ++ [z_75]))) E)) E) (fun (s_67 : (List Int)) => bindP (bindW (bindW (pureW s_67) lenW) fun x => bindW (bindW (pureW limits_61) lenW) fun y => ltI x y) (fun b => ifP b (bindP (bindW (pureW s_67) lenW) (fun z_76 => raiseP E "BadText" "index" (eI z_76)) E) (((bindW (pureW s_67) sameW) Q E))) E) xs found_62) E) E) E) E) := by
    simp only [d_parse_payments, d_parse_payments_2b_1, r_parse_payments_2b_1, d_parse_payments_2b_0, r_parse_payments_2b_0, d_parse_payments_4, r_parse_payments_4, d_parse_payments_3, r_parse_payments_3, d_parse_payments_2, r_parse_payments_2, d_parse_payments_1, r_parse_payments_1, d_parse_payments_0, r_parse_payments_0]
    exact (ts_par 2 3 (te_call1 c_words_of (te_var 1 (x := value_59) (e := eA) rfl)) (te_call1 c_debts (te_var 0 (x := book_58) (e := (eT (eP eI (eT (eP eI eI))))) rfl)) (fun words_60 limits_61 => (ts_setO 4 (tn_lst (tl_nil : TL _ _ eI _)) (fun found_62 => (ts_for (fun (s_67 : (List Int)) => [some (.v ((eT (eP eI (eT (eP eI eI)))) book_58)), some (.v (eA value_59)), some (.v ((eL eS) words_60)), some (.v ((eT eI) limits_61)), some (.own ((s_67 : (List Int)).map eI)), none, none]) found_62 (ps1 := fun x_68 s_67 => [some (.v ((eT (eP eI (eT (eP eI eI)))) book_58)), some (.v (eA value_59)), some (.v ((eL eS) words_60)), some (.v ((eT eI) limits_61)), some (.own ((s_67 : (List Int)).map eI)), some (.v (eI x_68.1)), some (.v (eS x_68.2))]) (ti_enL (te_var 2 (x := words_60) (e := (eL eS)) rfl)) (by repeat (first | exact True.intro | refine And.intro rfl ?_)) (fun x_68 s_67 => (tg_tup rfl (tgs_cons (tg_name 5) (tgs_cons (tg_name 6) tgs_nil)))) (fun x_68 s_67 N_69 nx_72 hN_71 => (ts_seq0 (ts_if (tb_or (tb_tst (te_op o_ge (te_var 5 (x := x_68.1) (e := eI) rfl) (te_cb1 o_lenT (te_var 3 (x := limits_61) (e := (eT eI)) rfl)))) (tb_not (tb_tst (te_call3 c_is_integer (te_co (eO eI) (fun _ => rfl) (te_call1 c_number_in (te_var 6 (x := x_68.2) (e := eS) rfl))) (te_int 0) (te_op o_ixT (te_var 3 (x := limits_61) (e := (eT eI)) rfl) (te_var 5 (x := x_68.1) (e := eI) rfl)))))) (ts_raise (te_var 5 (x := x_68.1) (e := eI) rfl)) (ts_via (ts_last (ts_app 4 (xs := s_67) rfl (te_get (te_call1 c_number_in (te_var 6 (x := x_68.2) (e := eS) rfl))) (fun z_75 => (ts_fall hN_71 (s_67 ++ [z_75]) (by repeat (first | exact True.intro | refine And.intro rfl ?_)))))))))) (fun s_67 => (ts_seq0 (ts_if (tb_tst (te_op o_lt (te_lend 4 (xs := s_67) rfl lf_I (fun _ _ _ h => h) (te_cb1 o_lenL (te_var 4 (x := s_67) (e := (eL eI)) rfl))) (te_cb1 o_lenT (te_var 3 (x := limits_61) (e := (eT eI)) rfl)))) (ts_raise (te_lend 4 (xs := s_67) rfl lf_I (fun _ _ _ h => h) (te_cb1 o_lenL (te_var 4 (x := s_67) (e := (eL eI)) rfl)))) (ts_via (ts_frz1 4 (xs := s_67) rfl (ts_ret hr (te_cb1 o_tupleL (te_var 4 (x := s_67) (e := (eL eI)) rfl)))))))))))))
  exact h _ m (u_parse_payments t_words_of t_debts t_number_in t_is_integer book_58 value_59 Q E q)
theorem law__law_pile : ∀ ds Q E, sp__law_pile ds Q E → d__law_pile { nx := fun _ => Q .non, rt := Q, ex := E } (dstart 8 ds) := by
  rintro ds Qd E ⟨box_77, own_78, many_79, size_80, wide_81, Q, rfl, hr, q⟩
  have m : Me [some (.v (eBx box_77)), some (.v (eI own_78)), some (.v (eI many_79)), some (.v (eI size_80)), some (.v (eI wide_81)), none, none, none] [.v (eBx box_77), .v (eI own_78), .v (eI many_79), .v (eI size_80), .v (eI wide_81), .no, .no, .no] := (me_of [.v (eBx box_77), .v (eI own_78), .v (eI many_79), .v (eI size_80), .v (eI wide_81), .no, .no, .no]).sub (by repeat (first | exact True.intro | refine And.intro rfl ?_))
  have h : TS [some (.v (eBx box_77)), some (.v (eI own_78)), some (.v (eI many_79)), some (.v (eI size_80)), some (.v (eI wide_81)), none, none, none] (d__law_pile) { nx := fun _ => Qd .non, rt := Qd, ex := E } (bindP (bindW (pureW []) szW) (fun found_82 => bindP (bindW (bindW (bindW (pureW box_77) fun x0 => bindW (bindW (pureW size_80) fun x => bindW (pureW (1 : Int)) fun y => addI x y) fun x1 => t__law_draw x0 x1) fun x => bindW (bindW (bindW (pureW many_79) fun x => bindW (pureW (1 : Int)) fun y => gtI x y) intB) fun y => mulI x y) rng1W) (fun xs => forP (fun x_88 (s_87 : (List (Int × Int))) N_89 B_90 => bindP (bindW (bindW (bindW (pureW own_78) fun x => bindW (pureW (1 : Int)) fun y => addI x y) fun x => bindW (bindW (pureW box_77) fun x0 => bindW (bindW (bindW (pureW (0 : Int)) fun x => bindW (bindW (bindW (pureW box_77) fun x0 => bindW (bindW (pureW many_79) fun x => bindW (pureW (1 : Int)) fun y => subI x y) fun x1 => t__law_draw x0 x1) fun x => bindW (pureW []) fun xs => pureW (x :: xs)) fun xs => pureW (x :: xs)) szW) fun x1 => t__law_one x0 x1) fun y => addI x y) fun x => bindW (pureW many_79) fun y => modI x y) (fun to_94 => bindP (bindW (pureW to_94) fun x => bindW (bindW (pureW (1 : Int)) fun x => bindW (bindW (pureW box_77) fun x0 => bindW (pureW wide_81) fun x1 => t__law_draw x0 x1) fun y => addI x y) fun y => pureW (x, y)) (fun z_95 => appP s_87 (N_89 (s_87 ++ [z_95]))) E) E) (fun (s_87 : (List (Int × Int))) => ((bindW (pureW s_87) sameW) Q E)) xs found_82) E) E) := by
    simp only [d__law_pile, d__law_pile_1b_1, r__law_pile_1b_1, d__law_pile_1b_0, r__law_pile_1b_0, d__law_pile_2, r__law_pile_2, d__law_pile_1, r__law_pile_1, d__law_pile_0, r__law_pile_0]
    exact (ts_setO 5 (tn_lst (tl_nil : TL _ _ (eP eI eI) _)) (fun found_82 => (ts_for (fun (s_87 : (List (Int × Int))) => [some (.v (eBx box_77)), some (.v (eI own_78)), some (.v (eI many_79)), some (.v (eI size_80)), some (.v (eI wide_81)), some (.own ((s_87 : (List (Int × Int))).map (eP eI eI))), none, none]) found_82 (ps1 := fun x_88 s_87 => [some (.v (eBx box_77)), some (.v (eI own_78)), some (.v (eI many_79)), some (.v (eI size_80)), some (.v (eI wide_81)), some (.own ((s_87 : (List (Int × Int))).map (eP eI eI))), some (.v (eI x_88)), none]) (ti_rng1 (te_op o_mul (te_call2 c__law_draw (te_var 0 (x := box_77) (e := eBx) rfl) (te_op o_add (te_var 3 (x := size_80) (e := eI) rfl) (te_int 1))) (te_cb1 o_intB (te_op o_gt (te_var 2 (x := many_79) (e := eI) rfl) (te_int 1))))) (by repeat (first | exact True.intro | refine And.intro rfl ?_)) (fun x_88 s_87 => (tg_name 6)) (fun x_88 s_87 N_89 nx_92 hN_91 => (ts_set 7 (te_op o_mod (te_op o_add (te_op o_add (te_var 1 (x := own_78) (e := eI) rfl) (te_int 1)) (te_call2 c__law_one (te_var 0 (x := box_77) (e := eBx) rfl) (te_lstL (tl_cons (te_int 0) (tl_cons (te_call2 c__law_draw (te_var 0 (x := box_77) (e := eBx) rfl) (te_op o_sub (te_var 2 (x := many_79) (e := eI) rfl) (te_int 1))) tl_nil))))) (te_var 2 (x := many_79) (e := eI) rfl)) (fun to_94 => (ts_last (ts_app 5 (xs := s_87) rfl (te_tup2 (te_var 7 (x := to_94) (e := eI) rfl) (te_op o_add (te_int 1) (te_call2 c__law_draw (te_var 0 (x := box_77) (e := eBx) rfl) (te_var 4 (x := wide_81) (e := eI) rfl)))) (fun z_95 => (ts_fall hN_91 (s_87 ++ [z_95]) (by repeat (first | exact True.intro | refine And.intro rfl ?_))))))))) (fun s_87 => (ts_frz1 5 (xs := s_87) rfl (ts_ret hr (te_cb1 o_tupleL (te_var 5 (x := s_87) (e := (eL (eP eI eI))) rfl))))))))
  exact h _ m (u__law_pile t__law_draw box_77 own_78 many_79 size_80 wide_81 Q E q)
theorem law__law_book : ∀ ds Q E, sp__law_book ds Q E → d__law_book { nx := fun _ => Q .non, rt := Q, ex := E } (dstart 7 ds) := by
  rintro ds Qd E ⟨box_96, most_97, size_98, wide_99, Q, rfl, hr, q⟩
  have m : Me [some (.v (eBx box_96)), some (.v (eI most_97)), some (.v (eI size_98)), some (.v (eI wide_99)), none, none, none] [.v (eBx box_96), .v (eI most_97), .v (eI size_98), .v (eI wide_99), .no, .no, .no] := (me_of [.v (eBx box_96), .v (eI most_97), .v (eI size_98), .v (eI wide_99), .no, .no, .no]).sub (by repeat (first | exact True.intro | refine And.intro rfl ?_))
  have h : TS [some (.v (eBx box_96)), some (.v (eI most_97)), some (.v (eI size_98)), some (.v (eI wide_99)), none, none, none] (d__law_book) { nx := fun _ => Qd .non, rt := Qd, ex := E } (bindP (bindW (pureW (1 : Int)) fun x => bindW (bindW (pureW box_96) fun x0 => bindW (pureW most_97) fun x1 => t__law_draw x0 x1) fun y => addI x y) (fun many_100 => bindP (bindW (bindW (pureW many_100) rng1W) fun xs => lcW (fun a_102 => (pureW true)) (fun a_102 => (bindW (pureW box_96) fun x0 => bindW (bindW (bindW (pureW (0 : Int)) fun x => bindW (bindW (pureW (0 : Int)) fun x => bindW (bindW (bindW (pureW box_96) fun x0 => bindW (bindW (pureW wide_99) fun x => bindW (pureW (1 : Int)) fun y => addI x y) fun x1 => t__law_draw x0 x1) fun x => bindW (pureW []) fun xs => pureW (x :: xs)) fun xs => pureW (x :: xs)) fun xs => pureW (x :: xs)) szW) fun x1 => t__law_one x0 x1)) xs) (fun purses_101 => ((bindW (bindW (bindW (pureW many_100) rng1W) fun xs => lcW (fun a_103 => (pureW true)) (fun a_103 => (bindW (bindW (pureW purses_101) fun x => bindW (pureW a_103) fun y => ixW x y) fun x => bindW (bindW (pureW box_96) fun x0 => bindW (pureW a_103) fun x1 => bindW (pureW many_100) fun x2 => bindW (pureW size_98) fun x3 => bindW (pureW wide_99) fun x4 => t__law_pile x0 x1 x2 x3 x4) fun y => pureW (x, y))) xs) sameW) Q E)) E) E) := by
    simp only [d__law_book, d__law_book_2, r__law_book_2, d__law_book_1, r__law_book_1, d__law_book_0, r__law_book_0]
    exact (ts_set 4 (te_op o_add (te_int 1) (te_call2 c__law_draw (te_var 0 (x := box_96) (e := eBx) rfl) (te_var 1 (x := most_97) (e := eI) rfl))) (fun many_100 => (ts_setN 5 (tn_lc (ps1 := fun a_102 => [some (.v (eBx box_96)), some (.v (eI most_97)), some (.v (eI size_98)), some (.v (eI wide_99)), some (.v (eI many_100)), none, some (.v (eI a_102))]) (ti_rng1 (te_var 4 (x := many_100) (e := eI) rfl)) (fun a_102 => (tg_name 6)) (fun a_102 => tb_yes) (fun a_102 => (te_call2 c__law_one (te_var 0 (x := box_96) (e := eBx) rfl) (te_lstL (tl_cons (te_int 0) (tl_cons (te_int 0) (tl_cons (te_call2 c__law_draw (te_var 0 (x := box_96) (e := eBx) rfl) (te_op o_add (te_var 3 (x := wide_99) (e := eI) rfl) (te_int 1))) tl_nil))))))) (fun purses_101 => (ts_ret hr (te_cb1 o_tupleL (te_frz (tn_lc (ps1 := fun a_103 => [some (.v (eBx box_96)), some (.v (eI most_97)), some (.v (eI size_98)), some (.v (eI wide_99)), some (.v (eI many_100)), some (.v ((eL eI) purses_101)), some (.v (eI a_103))]) (ti_rng1 (te_var 4 (x := many_100) (e := eI) rfl)) (fun a_103 => (tg_name 6)) (fun a_103 => tb_yes) (fun a_103 => (te_tup2 (te_op o_ixL (te_var 5 (x := purses_101) (e := (eL eI)) rfl) (te_var 6 (x := a_103) (e := eI) rfl)) (te_call5 c__law_pile (te_var 0 (x := box_96) (e := eBx) rfl) (te_var 6 (x := a_103) (e := eI) rfl) (te_var 4 (x := many_100) (e := eI) rfl) (te_var 2 (x := size_98) (e := eI) rfl) (te_var 3 (x := wide_99) (e := eI) rfl))))))))))))
  exact h _ m (u__law_book t__law_draw t__law_pile box_96 most_97 size_98 wide_99 Q E q)
theorem law__law_debts : ∀ ds Q E, sp__law_debts ds Q E → d__law_debts { nx := fun _ => Q .non, rt := Q, ex := E } (dstart 5 ds) := by
  rintro ds Qd E ⟨book_here_104, Q, rfl, hr, q⟩
  have m : Me [some (.v ((eT (eP eI (eT (eP eI eI)))) book_here_104)), none, none, none, none] [.v ((eT (eP eI (eT (eP eI eI)))) book_here_104), .no, .no, .no, .no] := (me_of [.v ((eT (eP eI (eT (eP eI eI)))) book_here_104), .no, .no, .no, .no]).sub (by repeat (first | exact True.intro | refine And.intro rfl ?_))
  have h : TS [some (.v ((eT (eP eI (eT (eP eI eI)))) book_here_104)), none, none, none, none] (d__law_debts) { nx := fun _ => Qd .non, rt := Qd, ex := E } (((bindW (pureW book_here_104) fun xs => lcW (fun a_105 => (pureW true)) (fun a_105 => (bindW (bindW (pureW a_105.2) fun xs => lcW (fun a_106 => (pureW true)) (fun a_106 => (pureW a_106.2)) xs) sumW)) xs) Q E)) := by
    simp only [d__law_debts, d__law_debts_0, r__law_debts_0]
    exact (ts_ret hr (te_frz (tn_lc (ps1 := fun a_105 => [some (.v ((eT (eP eI (eT (eP eI eI)))) book_here_104)), some (.v (eI a_105.1)), some (.v ((eT (eP eI eI)) a_105.2)), none, none]) (ti_T (te_var 0 (x := book_here_104) (e := (eT (eP eI (eT (eP eI eI))))) rfl)) (fun a_105 => (tg_tup rfl (tgs_cons (tg_name 1) (tgs_cons (tg_name 2) tgs_nil)))) (fun a_105 => tb_yes) (fun a_105 => (te_cb1 o_sumAL (te_frz (tn_lc (ps1 := fun a_106 => [some (.v ((eT (eP eI (eT (eP eI eI)))) book_here_104)), some (.v (eI a_105.1)), some (.v ((eT (eP eI eI)) a_105.2)), some (.v (eI a_106.1)), some (.v (eI a_106.2))]) (ti_T (te_var 2 (x := a_105.2) (e := (eT (eP eI eI))) rfl)) (fun a_106 => (tg_tup rfl (tgs_cons (tg_name 3) (tgs_cons (tg_name 4) tgs_nil)))) (fun a_106 => tb_yes) (fun a_106 => (te_var 4 (x := a_106.2) (e := eI) rfl)))))))))
  exact h _ m (u__law_debts book_here_104 Q E q)
theorem law__law_payments : ∀ ds Q E, sp__law_payments ds Q E → d__law_payments { nx := fun _ => Q .non, rt := Q, ex := E } (dstart 10 ds) := by
  rintro ds Qd E ⟨box_107, book_here_108, Q, rfl, hr, q⟩
  have m : Me [some (.v (eBx box_107)), some (.v ((eT (eP eI (eT (eP eI eI)))) book_here_108)), none, none, none, none, none, none, none, none] [.v (eBx box_107), .v ((eT (eP eI (eT (eP eI eI)))) book_here_108), .no, .no, .no, .no, .no, .no, .no, .no] := (me_of [.v (eBx box_107), .v ((eT (eP eI (eT (eP eI eI)))) book_here_108), .no, .no, .no, .no, .no, .no, .no, .no]).sub (by repeat (first | exact True.intro | refine And.intro rfl ?_))
  have h : TS [some (.v (eBx box_107)), some (.v ((eT (eP eI (eT (eP eI eI)))) book_here_108)), none, none, none, none, none, none, none, none] (d__law_payments) { nx := fun _ => Qd .non, rt := Qd, ex := E } (bindP (bindW (pureW []) szW) (fun found_109 => bindP (pureW book_here_108) (fun xs => forP (fun x_118 (s_117 : (List Int)) N_119 B_120 => bindP (bindW (bindW (bindW (pureW (0 : Int)) fun x => bindW (pureW []) fun xs => pureW (x :: xs)) szW) fun x => bindW (bindW (bindW (bindW (pureW x_118.2) lenW) rng1W) fun xs => lcW (fun a_125 => (pureW true)) (fun a_125 => (bindW (bindW (bindW (pureW x_118.2) fun xs => bindW (pureW none) fun l => bindW (bindW (bindW (pureW a_125) fun x => bindW (pureW (1 : Int)) fun y => addI x y) fun i => pureW (some i)) fun h => pureW (cutT xs l h)) fun xs => lcW (fun a_126 => (pureW true)) (fun a_126 => (pureW a_126.2)) xs) sumW)) xs) fun y => catW x y) (fun ends_124 => bindP (bindW (bindW (bindW (pureW box_107) fun x0 => bindW (pureW ends_124) fun x1 => t__law_one x0 x1) fun x => bindW (bindW (bindW (bindW (pureW box_107) fun x0 => bindW (pureW ends_124) fun x1 => t__law_one x0 x1) fun x => bindW (pureW (1 : Int)) fun y => addI x y) fun x => bindW (bindW (bindW (bindW (pureW box_107) fun x0 => bindW (pureW ends_124) fun x1 => t__law_one x0 x1) fun x => bindW (pureW (1 : Int)) fun y => subI x y) fun x => bindW (bindW (bindW (pureW box_107) fun x0 => bindW (bindW (bindW (pureW ends_124) fun x => bindW (bindW (pureW (1 : Int)) fun i => pureW (-i)) fun y => ixW x y) fun x => bindW (pureW (1 : Int)) fun y => addI x y) fun x1 => t__law_draw x0 x1) fun x => bindW (pureW []) fun xs => pureW (x :: xs)) fun xs => pureW (x :: xs)) fun xs => pureW (x :: xs)) fun xs => pureW (x :: xs)) szW) (fun some_127 => bindP (bindW (bindW (pureW (0 : Int)) fun x => bindW (bindW (pureW box_107) fun x0 => bindW (pureW some_127) fun x1 => t__law_one x0 x1) fun y => max2 x y) fun x => bindW (bindW (pureW ends_124) fun x => bindW (bindW (pureW (1 : Int)) fun i => pureW (-i)) fun y => ixW x y) fun y => min2 x y) (fun z_128 => appP s_117 (N_119 (s_117 ++ [z_128]))) E) E) E) (fun (s_117 : (List Int)) => ((bindW (pureW s_117) sameW) Q E)) xs found_109) E) E) := by
    simp only [d__law_payments, d__law_payments_1b_2, r__law_payments_1b_2, d__law_payments_1b_1, r__law_payments_1b_1, d__law_payments_1b_0, r__law_payments_1b_0, d__law_payments_2, r__law_payments_2, d__law_payments_1, r__law_payments_1, d__law_payments_0, r__law_payments_0]
    exact (ts_setO 2 (tn_lst (tl_nil : TL _ _ eI _)) (fun found_109 => (ts_for (fun (s_117 : (List Int)) => [some (.v (eBx box_107)), some (.v ((eT (eP eI (eT (eP eI eI)))) book_here_108)), some (.own ((s_117 : (List Int)).map eI)), none, none, none, none, none, none, none]) found_109 (ps1 := fun x_118 s_117 => [some (.v (eBx box_107)), some (.v ((eT (eP eI (eT (eP eI eI)))) book_here_108)), some (.own ((s_117 : (List Int)).map eI)), some (.v (eI x_118.1)), some (.v ((eT (eP eI eI)) x_118.2)), none, none, none, none, none]) (ti_T (te_var 1 (x := book_here_108) (e := (eT (eP eI (eT (eP eI eI))))) rfl)) (by repeat (first | exact True.intro | refine And.intro rfl ?_)) (fun x_118 s_117 => (tg_tup rfl (tgs_cons (tg_name 3) (tgs_cons (tg_name 4) tgs_nil)))) (fun x_118 s_117 N_119 nx_122 hN_121 => (ts_set 5 (te_op o_catL (te_lstL (tl_cons (te_int 0) tl_nil)) (te_frz (tn_lc (ps1 := fun a_125 => [some (.v (eBx box_107)), some (.v ((eT (eP eI (eT (eP eI eI)))) book_here_108)), some (.own ((s_117 : (List Int)).map eI)), some (.v (eI x_118.1)), some (.v ((eT (eP eI eI)) x_118.2)), none, none, some (.v (eI a_125)), none, none]) (ti_rng1 (te_cb1 o_lenT (te_var 4 (x := x_118.2) (e := (eT (eP eI eI))) rfl))) (fun a_125 => (tg_name 7)) (fun a_125 => tb_yes) (fun a_125 => (te_cb1 o_sumAL (te_frz (tn_lc (ps1 := fun a_126 => [some (.v (eBx box_107)), some (.v ((eT (eP eI (eT (eP eI eI)))) book_here_108)), some (.own ((s_117 : (List Int)).map eI)), some (.v (eI x_118.1)), some (.v ((eT (eP eI eI)) x_118.2)), none, none, some (.v (eI a_125)), some (.v (eI a_126.1)), some (.v (eI a_126.2))]) (ti_T (te_slT (te_var 4 (x := x_118.2) (e := (eT (eP eI eI))) rfl) tp_none (tp_some (te_op o_add (te_var 7 (x := a_125) (e := eI) rfl) (te_int 1))))) (fun a_126 => (tg_tup rfl (tgs_cons (tg_name 8) (tgs_cons (tg_name 9) tgs_nil)))) (fun a_126 => tb_yes) (fun a_126 => (te_var 9 (x := a_126.2) (e := eI) rfl))))))))) (fun ends_124 => (ts_set 6 (te_lstL (tl_cons (te_call2 c__law_one (te_var 0 (x := box_107) (e := eBx) rfl) (te_var 5 (x := ends_124) (e := (eL eI)) rfl)) (tl_cons (te_op o_add (te_call2 c__law_one (te_var 0 (x := box_107) (e := eBx) rfl) (te_var 5 (x := ends_124) (e := (eL eI)) rfl)) (te_int 1)) (tl_cons (te_op o_sub (te_call2 c__law_one (te_var 0 (x := box_107) (e := eBx) rfl) (te_var 5 (x := ends_124) (e := (eL eI)) rfl)) (te_int 1)) (tl_cons (te_call2 c__law_draw (te_var 0 (x := box_107) (e := eBx) rfl) (te_op o_add (te_op o_ixL (te_var 5 (x := ends_124) (e := (eL eI)) rfl) (te_neg (te_int 1))) (te_int 1))) tl_nil))))) (fun some_127 => (ts_last (ts_app 2 (xs := s_117) rfl (te_cb2 o_min2A (te_cb2 o_max2A (te_int 0) (te_call2 c__law_one (te_var 0 (x := box_107) (e := eBx) rfl) (te_var 6 (x := some_127) (e := (eL eI)) rfl))) (te_op o_ixL (te_var 5 (x := ends_124) (e := (eL eI)) rfl) (te_neg (te_int 1)))) (fun z_128 => (ts_fall hN_121 (s_117 ++ [z_128]) (by repeat (first | exact True.intro | refine And.intro rfl ?_))))))))))) (fun s_117 => (ts_frz1 2 (xs := s_117) rfl (ts_ret hr (te_cb1 o_tupleL (te_var 2 (x := s_117) (e := (eL eI)) rfl))))))))
  exact h _ m (u__law_payments t__law_draw box_107 book_here_108 Q E q)
theorem law__law_told : ∀ ds Q E, sp__law_told ds Q E → d__law_told { nx := fun _ => Q .non, rt := Q, ex := E } (dstart 5 ds) := by
  rintro ds Qd E ⟨book_here_129, value_130, Q, rfl, hr, q⟩
  have m : Me [some (.v (eA book_here_129)), some (.v (eA value_130)), none, none, none] [.v (eA book_here_129), .v (eA value_130), .no, .no, .no] := (me_of [.v (eA book_here_129), .v (eA value_130), .no, .no, .no]).sub (by repeat (first | exact True.intro | refine And.intro rfl ?_))
  have h : TS [some (.v (eA book_here_129)), some (.v (eA value_130)), none, none, none] (d__law_told) { nx := fun _ => Qd .non, rt := Qd, ex := E } (bindP (pureW D.non) (fun found_131 => joinP (fun (K_136 : D → Prop) => tryP (noX (bindW (pureW book_here_129) fun x => pureW (isNon (eA x))) fun c => ifW c (bindW (noX (pureW value_130) fun x0 => t_parse_book x0) fun y => pureW ((eT (eP eI (eT (eP eI eI)))) y)) (bindW (noX (bindW (pureW book_here_129) (asW (eT (eP eI (eT (eP eI eI)))))) fun x0 => noX (pureW value_130) fun x1 => t_parse_payments x0 x1) fun y => pureW ((eT eI) y))) xcs (fun found_132 => K_136 found_132) (fun xerr => bindP (bindW (pureW true) fun c => ifW c (bindW (pureW (or (isx xerr.cls "BadBook") (or (isx xerr.cls "NoAmount") (or (isx xerr.cls "NoHouse") (or (isx xerr.cls "NoIndex") false))))) fun c => pureW (!c)) (pureW false)) (fun alone_138 => bindP (bindW (bindW (pureW alone_138) fun c => ifW c (pureW (isx xerr.cls "BadText")) (pureW false)) fun c => ifW c (bindW (bindW (bindW (fldW xerr "index") fun x => bindW (pureW []) fun xs => pureW (x :: xs)) szW) fun x => pureW ((eL eA) x)) (bindW (bindW (bindW (pureW ("other" : Str)) fun x => bindW (pureW []) fun xs => pureW (x :: xs)) szW) fun x => pureW ((eL eS) x))) (fun found_139 => K_136 found_139) (fun _ => False)) (fun _ => False))) (fun (s_135 : D) => ((pureW s_135) Q E))) E) := by
    simp only [d__law_told, d__law_told_2, r__law_told_2, d__law_told_1, r__law_told_1, d__law_told_0, r__law_told_0]
    exact (ts_set 2 te_nonA (fun found_131 => (ts_join _ (fun (s_135 : D) => [some (.v (eA book_here_129)), some (.v (eA value_130)), some (.v (eA s_135)), none, none]) (fun s_135 => (ts_ret hr (te_var 2 (x := s_135) (e := eA) rfl))) (fun K_136 hK_137 => ts_tryS 2 3 (tx_if (tb_tst (te_isN (te_var 0 (x := book_here_129) (e := eA) rfl))) (tx_co (eT (eP eI (eT (eP eI eI)))) (fun _ => rfl) (tx_call1 c_parse_book (te_var 1 (x := value_130) (e := eA) rfl))) (tx_co (eT eI) (fun _ => rfl) (tx_call2 c_parse_payments (te_as (te_var 0 (x := book_here_129) (e := eA) rfl)) (te_var 1 (x := value_130) (e := eA) rfl)))) (fun found_132 => ts_fall hK_137 found_132 (by repeat (first | exact True.intro | refine And.intro rfl ?_))) (fun aerr derr xerr => (ts_set 4 (te_and (te_isX 3 true rfl) (te_not (te_isX 3 (or (isx xerr.cls "BadBook") (or (isx xerr.cls "NoAmount") (or (isx xerr.cls "NoHouse") (or (isx xerr.cls "NoIndex") false)))) rfl))) (fun alone_138 => (ts_last (ts_set 2 (te_if (tb_and (tb_tst (te_var 4 (x := alone_138) (e := eB) rfl)) (tb_tst (te_isX 3 (isx xerr.cls "BadText") rfl))) (te_co (eL eA) (fun _ => rfl) (te_lstL (tl_cons (te_fld 3 "index" rfl) tl_nil))) (te_co (eL eS) (fun _ => rfl) (te_lstL (tl_cons (te_str "other") tl_nil)))) (fun found_139 => (ts_fall (nx_gone hK_137 (fun _ => rfl)) found_139 (by repeat (first | exact True.intro | refine And.intro rfl ?_)))))))))))))
  exact h _ m (u__law_told t_parse_book t_parse_payments book_here_129 value_130 Q E q)
theorem law__law_number : ∀ ds Q E, sp__law_number ds Q E → d__law_number { nx := fun _ => Q .non, rt := Q, ex := E } (dstart 5 ds) := by
  rintro ds Qd E ⟨text_140, low_141, high_142, Q, rfl, hr, q⟩
  have m : Me [some (.v (eS text_140)), some (.v (eI low_141)), some (.v (eI high_142)), none, none] [.v (eS text_140), .v (eI low_141), .v (eI high_142), .no, .no] := (me_of [.v (eS text_140), .v (eI low_141), .v (eI high_142), .no, .no]).sub (by repeat (first | exact True.intro | refine And.intro rfl ?_))
  have h : TS [some (.v (eS text_140)), some (.v (eI low_141)), some (.v (eI high_142)), none, none] (d__law_number) { nx := fun _ => Qd .non, rt := Qd, ex := E } (bindP (bindW (bindW (pureW text_140) fun x => bindW (pureW ("" : Str)) fun y => eqW x y) fun c => ifW c (pureW true) (bindW (bindW (bindW (pureW text_140) lenS) fun x => bindW (pureW (13 : Int)) fun y => gtI x y) fun c => ifW c (pureW true) (bindW (bindW (bindW (pureW text_140) fun z => pureW (sgns z)) fun xs => lcW (fun a_143 => (bindW (pureW a_143) fun x => bindW (pureW ("0123456789" : Str)) fun y => niSW x y)) (fun a_143 => (pureW a_143)) xs) fun x => bindW (bindW (pureW []) szW) fun y => neW x y))) (fun b => ifP b (((bindW (pureW ()) fun _ => pureW (none : (Option Int))) Q E)) (bindP (pureW (0 : Int)) (fun number_here_144 => bindP (bindW (pureW text_140) fun z => pureW (sgns z)) (fun xs => forP (fun x_149 (s_148 : Int) N_150 B_151 => bindP (bindW (bindW (pureW s_148) fun x => bindW (pureW (10 : Int)) fun y => mulI x y) fun x => bindW (bindW (pureW ("0123456789" : Str)) fun x => bindW (pureW x_149) fun y => indexSW x y) fun y => addI x y) (fun number_here_155 => N_150 number_here_155) E) (fun (s_148 : Int) => ((bindW (bindW (bindW (bindW (pureW s_148) strW) fun x => bindW (pureW text_140) fun y => eqW x y) fun c => ifW c (bindW (pureW low_141) fun x => bindW (pureW s_148) fun y => bindW (leI x y) fun c => ifW c (bindW (pureW high_142) fun z => leI y z) (pureW false)) (pureW false)) fun c => ifW c (bindW (pureW s_148) fun x => pureW (some x)) (bindW (pureW ()) fun _ => pureW (none : (Option Int)))) Q E)) xs number_here_144) E) E)) E) := by
    simp only [d__law_number, d__law_number_3, r__law_number_3, d__law_number_2, r__law_number_2, d__law_number_1, r__law_number_1, d__law_number_0, r__law_number_0]
    exact (ts_seq0 (ts_if (tb_or (tb_tst (te_op (o_eq eq_S (by decide) ni_S) (te_var 0 (x := text_140) (e := eS) rfl) (te_str ""))) (tb_or (tb_tst (te_op o_gt (te_cb1 o_lenS (te_var 0 (x := text_140) (e := eS) rfl)) (te_int 13))) (tb_tst (te_op (o_ne (eq_L eq_S) (by decide) ni_L) (te_frz (tn_lc (ps1 := fun a_143 => [some (.v (eS text_140)), some (.v (eI low_141)), some (.v (eI high_142)), none, some (.v (eS a_143))]) (ti_S (te_var 0 (x := text_140) (e := eS) rfl)) (fun a_143 => (tg_name 4)) (fun a_143 => (tb_tst (te_op o_niS (te_var 4 (x := a_143) (e := eS) rfl) (te_str "0123456789")))) (fun a_143 => (te_var 4 (x := a_143) (e := eS) rfl)))) (te_lstL (tl_nil : TL _ _ eS _)))))) (ts_ret hr (te_co (e' := (eO eI)) (fun _ => none) (fun _ => rfl) te_non)) (ts_via (ts_set 3 (te_int 0) (fun number_here_144 => (ts_for (fun (s_148 : Int) => [some (.v (eS text_140)), some (.v (eI low_141)), some (.v (eI high_142)), some (.v (eI s_148)), none]) number_here_144 (ps1 := fun x_149 s_148 => [some (.v (eS text_140)), some (.v (eI low_141)), some (.v (eI high_142)), some (.v (eI s_148)), some (.v (eS x_149))]) (ti_S (te_var 0 (x := text_140) (e := eS) rfl)) (by repeat (first | exact True.intro | refine And.intro rfl ?_)) (fun x_149 s_148 => (tg_name 4)) (fun x_149 s_148 N_150 nx_153 hN_152 => (ts_last (ts_set 3 (te_op o_add (te_op o_mul (te_var 3 (x := s_148) (e := eI) rfl) (te_int 10)) (te_indexS (te_str "0123456789") (te_var 4 (x := x_149) (e := eS) rfl))) (fun number_here_155 => (ts_fall hN_152 number_here_155 (by repeat (first | exact True.intro | refine And.intro rfl ?_))))))) (fun s_148 => (ts_ret hr (te_if (tb_and (tb_tst (te_op (o_eq eq_S (by decide) ni_S) (te_cb1 o_str (te_var 3 (x := s_148) (e := eI) rfl)) (te_var 0 (x := text_140) (e := eS) rfl))) (tb_tst (te_chain o_le o_le (te_var 1 (x := low_141) (e := eI) rfl) (te_var 3 (x := s_148) (e := eI) rfl) (te_var 2 (x := high_142) (e := eI) rfl)))) (te_co (e' := (eO eI)) (fun x => some x) (fun _ => rfl) (te_var 3 (x := s_148) (e := eI) rfl)) (te_co (e' := (eO eI)) (fun _ => none) (fun _ => rfl) te_non))))))))))
  exact h _ m (u__law_number text_140 low_141 high_142 Q E q)
theorem law__law_house_of : ∀ ds Q E, sp__law_house_of ds Q E → d__law_house_of { nx := fun _ => Q .non, rt := Q, ex := E } (dstart 9 ds) := by
  rintro ds Qd E ⟨text_156, Q, rfl, hr, q⟩
  have m : Me [some (.v (eS text_156)), none, none, none, none, none, none, none, none] [.v (eS text_156), .no, .no, .no, .no, .no, .no, .no, .no] := (me_of [.v (eS text_156), .no, .no, .no, .no, .no, .no, .no, .no]).sub (by repeat (first | exact True.intro | refine And.intro rfl ?_))
  have h : TS [some (.v (eS text_156)), none, none, none, none, none, none, none, none] (d__law_house_of) { nx := fun _ => Qd .non, rt := Qd, ex := E } (bindP (bindW (bindW (pureW text_156) fun x => bindW (pureW (":" : Str)) fun y => countSW x y) fun x => bindW (pureW (1 : Int)) fun y => neI x y) (fun b => ifP b (((bindW (pureW ()) fun _ => pureW (none : (Option (Int × (List ((Option Int) × (Option Int))))))) Q E)) (bindP (bindW (bindW (pureW text_156) fun x => bindW (pureW (":" : Str)) fun y => splW x y) unq2) (fun z_157 => bindP (bindW (pureW []) szW) (fun slips_158 => bindP (bindW (bindW (pureW z_157.2) fun x => bindW (pureW ("" : Str)) fun y => neW x y) fun c => ifW c (bindW (pureW z_157.2) fun x => bindW (pureW ("," : Str)) fun y => splW x y) (bindW (pureW []) szW)) (fun parts_159 => bindP (pureW parts_159) (fun xs => forP (fun x_165 (s_164 : (List ((Option Int) × (Option Int)))) N_166 B_167 => bindP (bindW (bindW (pureW x_165) fun x => bindW (pureW ("-" : Str)) fun y => countSW x y) fun x => bindW (pureW (1 : Int)) fun y => neI x y) (fun b => ifP b (((bindW (pureW ()) fun _ => pureW (none : (Option (Int × (List ((Option Int) × (Option Int))))))) Q E)) (bindP (bindW (bindW (pureW x_165) fun x => bindW (pureW ("-" : Str)) fun y => splW x y) unq2) (fun z_171 => bindP (bindW (bindW (pureW z_171.1) fun x0 => bindW (pureW (0 : Int)) fun x1 => bindW (pureW (5 : Int)) fun x2 => t__law_number x0 x1 x2) fun x => bindW (bindW (pureW z_171.2) fun x0 => bindW (pureW (1 : Int)) fun x1 => bindW (bindW (pureW (10 : Int)) fun x => bindW (pureW (9 : Int)) fun y => powI x y) fun x2 => t__law_number x0 x1 x2) fun y => pureW (x, y)) (fun z_172 => appP s_164 (N_166 (s_164 ++ [z_172]))) E) E)) E) (fun (s_164 : (List ((Option Int) × (Option Int)))) => bindP (bindW (bindW (bindW (pureW s_164) lenW) fun x => bindW (pureW (6 : Int)) fun y => gtI x y) fun c => ifW c (pureW true) (bindW (bindW (bindW (pureW s_164) fun xs => lcW (fun a_173 => (bindW (bindW (pureW ()) fun _ => pureW (none : (Option Int))) fun x => bindW (bindW (pureW a_173) fun p => pureW [p.1, p.2]) fun y => inW x y)) (fun a_173 => (pureW a_173)) xs) fun x => bindW (bindW (pureW []) szW) fun y => neW x y) fun c => ifW c (pureW true) (bindW (bindW (pureW z_157.1) fun x0 => bindW (pureW (0 : Int)) fun x1 => bindW (bindW (pureW (10 : Int)) fun x => bindW (pureW (12 : Int)) fun y => powI x y) fun x2 => t__law_number x0 x1 x2) fun x => pureW x.isNone))) (fun b => ifP b (((bindW (pureW ()) fun _ => pureW (none : (Option (Int × (List ((Option Int) × (Option Int))))))) Q E)) (((bindW (bindW (bindW (pureW z_157.1) intSW) fun x => bindW (bindW (pureW s_164) sameW) fun y => pureW (x, y)) fun x => pureW (some x)) Q E))) E) xs slips_158) E) E) E) E)) E) := by
    simp only [d__law_house_of, d__law_house_of_4b_2, r__law_house_of_4b_2, d__law_house_of_4b_1, r__law_house_of_4b_1, d__law_house_of_4b_0, r__law_house_of_4b_0, d__law_house_of_6, r__law_house_of_6, d__law_house_of_5, r__law_house_of_5, d__law_house_of_4, r__law_house_of_4, d__law_house_of_3, r__law_house_of_3, d__law_house_of_2, r__law_house_of_2, d__law_house_of_1, r__law_house_of_1, d__law_house_of_0, r__law_house_of_0]
    exact (ts_seq0 (ts_if (tb_tst (te_op o_neI (te_countS (te_var 0 (x := text_156) (e := eS) rfl) (te_str ":")) (te_int 1))) (ts_ret hr (te_co (e' := (eO (eP eI (eT (eP (eO eI) (eO eI)))))) (fun _ => none) (fun _ => rfl) te_non)) (ts_via (ts_asg (ps1 := fun z_157 => [some (.v (eS text_156)), some (.v (eS z_157.1)), some (.v (eS z_157.2)), none, none, none, none, none, none]) (te_unq2 (te_frz (tn_split (te_var 0 (x := text_156) (e := eS) rfl) (te_str ":")))) (fun z_157 => (tg_lst rfl (tgs_cons (tg_name 1) (tgs_cons (tg_name 2) tgs_nil)))) (fun z_157 => (ts_setO 3 (tn_lst (tl_nil : TL _ _ (eP (eO eI) (eO eI)) _)) (fun slips_158 => (ts_set 4 (te_if (tb_tst (te_op (o_ne eq_S (by decide) ni_S) (te_var 2 (x := z_157.2) (e := eS) rfl) (te_str ""))) (te_frz (tn_split (te_var 2 (x := z_157.2) (e := eS) rfl) (te_str ","))) (te_lstL (tl_nil : TL _ _ eS _))) (fun parts_159 => (ts_for (fun (s_164 : (List ((Option Int) × (Option Int)))) => [some (.v (eS text_156)), some (.v (eS z_157.1)), some (.v (eS z_157.2)), some (.own ((s_164 : (List ((Option Int) × (Option Int)))).map (eP (eO eI) (eO eI)))), some (.v ((eL eS) parts_159)), none, none, none, none]) slips_158 (ps1 := fun x_165 s_164 => [some (.v (eS text_156)), some (.v (eS z_157.1)), some (.v (eS z_157.2)), some (.own ((s_164 : (List ((Option Int) × (Option Int)))).map (eP (eO eI) (eO eI)))), some (.v ((eL eS) parts_159)), some (.v (eS x_165)), none, none, none]) (ti_L (te_var 4 (x := parts_159) (e := (eL eS)) rfl)) (by repeat (first | exact True.intro | refine And.intro rfl ?_)) (fun x_165 s_164 => (tg_name 5)) (fun x_165 s_164 N_166 nx_169 hN_168 => (ts_seq0 (ts_if (tb_tst (te_op o_neI (te_countS (te_var 5 (x := x_165) (e := eS) rfl) (te_str "-")) (te_int 1))) (ts_ret hr (te_co (e' := (eO (eP eI (eT (eP (eO eI) (eO eI)))))) (fun _ => none) (fun _ => rfl) te_non)) (ts_via (ts_asg (ps1 := fun z_171 => [some (.v (eS text_156)), some (.v (eS z_157.1)), some (.v (eS z_157.2)), some (.own ((s_164 : (List ((Option Int) × (Option Int)))).map (eP (eO eI) (eO eI)))), some (.v ((eL eS) parts_159)), some (.v (eS x_165)), some (.v (eS z_171.1)), some (.v (eS z_171.2)), none]) (te_unq2 (te_frz (tn_split (te_var 5 (x := x_165) (e := eS) rfl) (te_str "-")))) (fun z_171 => (tg_lst rfl (tgs_cons (tg_name 6) (tgs_cons (tg_name 7) tgs_nil)))) (fun z_171 => (ts_last (ts_app 3 (xs := s_164) rfl (te_tup2 (te_call3 c__law_number (te_var 6 (x := z_171.1) (e := eS) rfl) (te_int 0) (te_int 5)) (te_call3 c__law_number (te_var 7 (x := z_171.2) (e := eS) rfl) (te_int 1) (te_op o_pow (te_int 10) (te_int 9)))) (fun z_172 => (ts_fall hN_168 (s_164 ++ [z_172]) (by repeat (first | exact True.intro | refine And.intro rfl ?_)))))))))))) (fun s_164 => (ts_frz 3 (xs := s_164) rfl (ts_seq0 (ts_if (tb_or (tb_tst (te_op o_gt (te_cb1 o_lenL (te_var 3 (x := s_164) (e := (eL (eP (eO eI) (eO eI)))) rfl)) (te_int 6))) (tb_or (tb_tst (te_op (o_ne (eq_L (eq_P (eq_O nn_I eq_I) (eq_O nn_I eq_I))) (by decide) ni_L) (te_frz (tn_lc (ps1 := fun a_173 => [some (.v (eS text_156)), some (.v (eS z_157.1)), some (.v (eS z_157.2)), some (.v ((eL (eP (eO eI) (eO eI))) s_164)), some (.v ((eL eS) parts_159)), none, none, none, some (.v ((eP (eO eI) (eO eI)) a_173))]) (ti_L (te_var 3 (x := s_164) (e := (eL (eP (eO eI) (eO eI)))) rfl)) (fun a_173 => (tg_name 8)) (fun a_173 => (tb_tst (te_op (o_inT (eq_O nn_I eq_I) (by decide)) (te_co (e' := (eO eI)) (fun _ => none) (fun _ => rfl) te_non) (te_co (e' := (eT (eO eI))) (fun (p : ((Option Int) × (Option Int))) => [p.1, p.2]) (fun _ => rfl) (te_var 8 (x := a_173) (e := (eP (eO eI) (eO eI))) rfl))))) (fun a_173 => (te_var 8 (x := a_173) (e := (eP (eO eI) (eO eI))) rfl)))) (te_lstL (tl_nil : TL _ _ (eP (eO eI) (eO eI)) _)))) (tb_tst (te_isNO nn_I (te_call3 c__law_number (te_var 1 (x := z_157.1) (e := eS) rfl) (te_int 0) (te_op o_pow (te_int 10) (te_int 12))))))) (ts_ret hr (te_co (e' := (eO (eP eI (eT (eP (eO eI) (eO eI)))))) (fun _ => none) (fun _ => rfl) te_non)) (ts_via (ts_ret hr (te_co (e' := (eO (eP eI (eT (eP (eO eI) (eO eI)))))) (fun x => some x) (fun _ => rfl) (te_tup2 (te_cb1 o_intS (te_var 1 (x := z_157.1) (e := eS) rfl)) (te_cb1 o_tupleL (te_var 3 (x := s_164) (e := (eL (eP (eO eI) (eO eI)))) rfl))))))))))))))))))))
  exact h _ m (u__law_house_of t__law_number text_156 Q E q)
theorem law__law_due_book : ∀ ds Q E, sp__law_due_book ds Q E → d__law_due_book { nx := fun _ => Q .non, rt := Q, ex := E } (dstart 9 ds) := by
  rintro ds Qd E ⟨value_174, Q, rfl, hr, q⟩
  have m : Me [some (.v (eA value_174)), none, none, none, none, none, none, none, none] [.v (eA value_174), .no, .no, .no, .no, .no, .no, .no, .no] := (me_of [.v (eA value_174), .no, .no, .no, .no, .no, .no, .no, .no]).sub (by repeat (first | exact True.intro | refine And.intro rfl ?_))
  have h : TS [some (.v (eA value_174)), none, none, none, none, none, none, none, none] (d__law_due_book) { nx := fun _ => Qd .non, rt := Qd, ex := E } (bindP (bindW (bindW (pureW value_174) fun x => pureW (isT "str" (eA x))) fun c => pureW (!c)) (fun b => ifP b (((bindW (bindW (bindW (pureW ()) fun x => bindW (pureW []) fun xs => pureW (x :: xs)) szW) fun x => pureW ((eL eN) x)) Q E)) (bindP (bindW (bindW (bindW (pureW value_174) (asW eS)) fun x => bindW (pureW (" " : Str)) fun y => splW x y) fun xs => lcW (fun a_176 => (pureW true)) (fun a_176 => (bindW (pureW a_176) fun x0 => t__law_house_of x0)) xs) (fun found_175 => bindP (bindW (pureW found_175) fun xs => pureW (enI xs)) (fun xs => forP (fun x_180 (s_179 : Unit) N_181 B_182 => bindP (bindW (bindW (pureW x_180.2) fun x => pureW x.isNone) fun c => ifW c (pureW true) (bindW (pureW x_180.1) fun x => bindW (pureW (6 : Int)) fun y => eqI x y)) (fun b => ifP b (((bindW (bindW (bindW (pureW x_180.1) fun x => bindW (pureW []) fun xs => pureW (x :: xs)) szW) fun x => pureW ((eL eI) x)) Q E)) (N_181 ())) E) (fun (s_179 : Unit) => bindP (bindW (bindW (pureW found_175) getAllW) fun xs => pureW (enI xs)) (fun xs => forP (fun x_190 (s_189 : Unit) N_191 B_192 => bindP (bindW (bindW (pureW x_190.2.2) fun xs => lcW (fun a_196 => (bindW (bindW (bindW (pureW a_196.1) fun x => pureW ((eO eI) x)) fun x => bindW (bindW (pureW x_190.1) fun x => pureW (eI x)) fun y => eqA x y) fun c => ifW c (pureW true) (bindW (bindW (pureW a_196.1) getW) fun x => bindW (bindW (pureW found_175) lenW) fun y => geI x y))) (fun a_196 => (pureW a_196.1)) xs) fun x => bindW (bindW (pureW []) szW) fun y => neW x y) (fun b => ifP b (((bindW (bindW (bindW (pureW x_190.1) fun x => bindW (pureW []) fun xs => pureW (x :: xs)) szW) fun x => pureW ((eL eI) x)) Q E)) (N_191 ())) E) (fun (s_189 : Unit) => ((bindW (bindW (pureW found_175) sameW) fun x => pureW ((eT (eO (eP eI (eT (eP (eO eI) (eO eI)))))) x)) Q E)) xs ()) E) xs ()) E) E)) E) := by
    simp only [d__law_due_book, d__law_due_book_4, r__law_due_book_4, d__law_due_book_3, r__law_due_book_3, d__law_due_book_2, r__law_due_book_2, d__law_due_book_1, r__law_due_book_1, d__law_due_book_0, r__law_due_book_0]
    exact (ts_seq0 (ts_if (tb_not (tb_tst (te_isi (te_var 0 (x := value_174) (e := eA) rfl)))) (ts_ret hr (te_co (eL eN) (fun _ => rfl) (te_lstL (tl_cons te_non tl_nil)))) (ts_via (ts_setN 1 (tn_lc (ps1 := fun a_176 => [some (.v (eA value_174)), none, none, none, none, none, some (.v (eS a_176)), none, none]) (ti_L (te_frz (tn_split (te_as (te_var 0 (x := value_174) (e := eA) rfl)) (te_str " ")))) (fun a_176 => (tg_name 6)) (fun a_176 => tb_yes) (fun a_176 => (te_call1 c__law_house_of (te_var 6 (x := a_176) (e := eS) rfl)))) (fun found_175 => (ts_for (fun (s_179 : Unit) => [some (.v (eA value_174)), some (.v ((eL (eO (eP eI (eT (eP (eO eI) (eO eI)))))) found_175)), none, none, none, none, none, none, none]) () (ps1 := fun x_180 s_179 => [some (.v (eA value_174)), some (.v ((eL (eO (eP eI (eT (eP (eO eI) (eO eI)))))) found_175)), some (.v (eI x_180.1)), some (.v ((eO (eP eI (eT (eP (eO eI) (eO eI))))) x_180.2)), none, none, none, none, none]) (ti_enL (te_var 1 (x := found_175) (e := (eL (eO (eP eI (eT (eP (eO eI) (eO eI))))))) rfl)) (by repeat (first | exact True.intro | refine And.intro rfl ?_)) (fun x_180 s_179 => (tg_tup rfl (tgs_cons (tg_name 2) (tgs_cons (tg_name 3) tgs_nil)))) (fun x_180 s_179 N_181 nx_184 hN_183 => (ts_last (ts_seq0 (ts_if (tb_or (tb_tst (te_isNO nn_P (te_var 3 (x := x_180.2) (e := (eO (eP eI (eT (eP (eO eI) (eO eI)))))) rfl))) (tb_tst (te_op o_eqI (te_var 2 (x := x_180.1) (e := eI) rfl) (te_int 6)))) (ts_ret hr (te_co (eL eI) (fun _ => rfl) (te_lstL (tl_cons (te_var 2 (x := x_180.1) (e := eI) rfl) tl_nil)))) (ts_via (ts_fall hN_183 () (by repeat (first | exact True.intro | refine And.intro rfl ?_)))))))) (fun s_179 => (ts_for (fun (s_189 : Unit) => [some (.v (eA value_174)), some (.v ((eL (eO (eP eI (eT (eP (eO eI) (eO eI)))))) found_175)), none, none, none, none, none, none, none]) () (ps1 := fun x_190 s_189 => [some (.v (eA value_174)), some (.v ((eL (eO (eP eI (eT (eP (eO eI) (eO eI)))))) found_175)), some (.v (eI x_190.1)), none, some (.v (eI x_190.2.1)), some (.v ((eT (eP (eO eI) (eO eI))) x_190.2.2)), none, none, none]) (ti_enL (te_getAllL (te_var 1 (x := found_175) (e := (eL (eO (eP eI (eT (eP (eO eI) (eO eI))))))) rfl))) (by repeat (first | exact True.intro | refine And.intro rfl ?_)) (fun x_190 s_189 => (tg_tup rfl (tgs_cons (tg_name 2) (tgs_cons (tg_tup rfl (tgs_cons (tg_name 4) (tgs_cons (tg_name 5) tgs_nil))) tgs_nil)))) (fun x_190 s_189 N_191 nx_194 hN_193 => (ts_last (ts_seq0 (ts_if (tb_tst (te_op (o_ne (eq_L (eq_O nn_I eq_I)) (by decide) ni_L) (te_frz (tn_lc (ps1 := fun a_196 => [some (.v (eA value_174)), some (.v ((eL (eO (eP eI (eT (eP (eO eI) (eO eI)))))) found_175)), some (.v (eI x_190.1)), none, some (.v (eI x_190.2.1)), some (.v ((eT (eP (eO eI) (eO eI))) x_190.2.2)), none, some (.v ((eO eI) a_196.1)), some (.v ((eO eI) a_196.2))]) (ti_T (te_var 5 (x := x_190.2.2) (e := (eT (eP (eO eI) (eO eI)))) rfl)) (fun a_196 => (tg_tup rfl (tgs_cons (tg_name 7) (tgs_cons (tg_name 8) tgs_nil)))) (fun a_196 => (tb_or (tb_tst (te_op o_eqA (te_co (eO eI) (fun _ => rfl) (te_var 7 (x := a_196.1) (e := (eO eI)) rfl)) (te_co eI (fun _ => rfl) (te_var 2 (x := x_190.1) (e := eI) rfl)))) (tb_tst (te_op o_ge (te_get (te_var 7 (x := a_196.1) (e := (eO eI)) rfl)) (te_cb1 o_lenL (te_var 1 (x := found_175) (e := (eL (eO (eP eI (eT (eP (eO eI) (eO eI))))))) rfl)))))) (fun a_196 => (te_var 7 (x := a_196.1) (e := (eO eI)) rfl)))) (te_lstL (tl_nil : TL _ _ (eO eI) _)))) (ts_ret hr (te_co (eL eI) (fun _ => rfl) (te_lstL (tl_cons (te_var 2 (x := x_190.1) (e := eI) rfl) tl_nil)))) (ts_via (ts_fall hN_193 () (by repeat (first | exact True.intro | refine And.intro rfl ?_)))))))) (fun s_189 => (ts_ret hr (te_co (eT (eO (eP eI (eT (eP (eO eI) (eO eI)))))) (fun _ => rfl) (te_cb1 o_tupleL (te_var 1 (x := found_175) (e := (eL (eO (eP eI (eT (eP (eO eI) (eO eI))))))) rfl)))))))))))))
  exact h _ m (u__law_due_book t__law_house_of value_174 Q E q)
theorem law__law_due_payments : ∀ ds Q E, sp__law_due_payments ds Q E → d__law_due_payments { nx := fun _ => Q .non, rt := Q, ex := E } (dstart 6 ds) := by
  rintro ds Qd E ⟨book_here_197, value_198, Q, rfl, hr, q⟩
  have m : Me [some (.v ((eT (eP eI (eT (eP eI eI)))) book_here_197)), some (.v (eA value_198)), none, none, none, none] [.v ((eT (eP eI (eT (eP eI eI)))) book_here_197), .v (eA value_198), .no, .no, .no, .no] := (me_of [.v ((eT (eP eI (eT (eP eI eI)))) book_here_197), .v (eA value_198), .no, .no, .no, .no]).sub (by repeat (first | exact True.intro | refine And.intro rfl ?_))
  have h : TS [some (.v ((eT (eP eI (eT (eP eI eI)))) book_here_197)), some (.v (eA value_198)), none, none, none, none] (d__law_due_payments) { nx := fun _ => Qd .non, rt := Qd, ex := E } (bindP (bindW (bindW (pureW value_198) fun x => pureW (isT "str" (eA x))) fun c => pureW (!c)) (fun b => ifP b (((bindW (bindW (bindW (pureW ()) fun x => bindW (pureW []) fun xs => pureW (x :: xs)) szW) fun x => pureW ((eL eN) x)) Q E)) (bindP (bindW (pureW book_here_197) fun x0 => t__law_debts x0) (fun owed_199 => bindP (bindW (pureW []) szW) (fun found_200 => bindP (bindW (bindW (bindW (pureW value_198) (asW eS)) fun x => bindW (pureW (" " : Str)) fun y => splW x y) fun xs => pureW (enI xs)) (fun xs => forP (fun x_205 (s_204 : (List Int)) N_206 B_207 => bindP (bindW (bindW (pureW x_205.1) fun x => bindW (bindW (pureW owed_199) lenW) fun y => geI x y) fun c => ifW c (pureW true) (bindW (bindW (pureW x_205.2) fun x0 => bindW (pureW (0 : Int)) fun x1 => bindW (bindW (pureW owed_199) fun x => bindW (pureW x_205.1) fun y => ixW x y) fun x2 => t__law_number x0 x1 x2) fun x => pureW x.isNone)) (fun b => ifP b (((bindW (bindW (bindW (pureW x_205.1) fun x => bindW (pureW []) fun xs => pureW (x :: xs)) szW) fun x => pureW ((eL eI) x)) Q E)) (bindP (bindW (pureW x_205.2) intSW) (fun z_211 => appP s_204 (N_206 (s_204 ++ [z_211]))) E)) E) (fun (s_204 : (List Int)) => ((bindW (bindW (bindW (pureW s_204) lenW) fun x => bindW (bindW (pureW owed_199) lenW) fun y => eqI x y) fun c => ifW c (bindW (bindW (pureW s_204) sameW) fun x => pureW ((eT eI) x)) (bindW (bindW (bindW (bindW (pureW s_204) lenW) fun x => bindW (pureW []) fun xs => pureW (x :: xs)) szW) fun x => pureW ((eL eI) x))) Q E)) xs found_200) E) E) E)) E) := by
    simp only [d__law_due_payments, d__law_due_payments_2b_1, r__law_due_payments_2b_1, d__law_due_payments_2b_0, r__law_due_payments_2b_0, d__law_due_payments_3, r__law_due_payments_3, d__law_due_payments_2, r__law_due_payments_2, d__law_due_payments_1, r__law_due_payments_1, d__law_due_payments_0, r__law_due_payments_0]
    exact (ts_seq0 (ts_if (tb_not (tb_tst (te_isi (te_var 1 (x := value_198) (e := eA) rfl)))) (ts_ret hr (te_co (eL eN) (fun _ => rfl) (te_lstL (tl_cons te_non tl_nil)))) (ts_via (ts_parP 2 3 (te_call1 c__law_debts (te_var 0 (x := book_here_197) (e := (eT (eP eI (eT (eP eI eI))))) rfl)) (tn_lst (tl_nil : TL _ _ eI _)) (fun owed_199 found_200 => (ts_for (fun (s_204 : (List Int)) => [some (.v ((eT (eP eI (eT (eP eI eI)))) book_here_197)), some (.v (eA value_198)), some (.v ((eL eI) owed_199)), some (.own ((s_204 : (List Int)).map eI)), none, none]) found_200 (ps1 := fun x_205 s_204 => [some (.v ((eT (eP eI (eT (eP eI eI)))) book_here_197)), some (.v (eA value_198)), some (.v ((eL eI) owed_199)), some (.own ((s_204 : (List Int)).map eI)), some (.v (eI x_205.1)), some (.v (eS x_205.2))]) (ti_enL (te_frz (tn_split (te_as (te_var 1 (x := value_198) (e := eA) rfl)) (te_str " ")))) (by repeat (first | exact True.intro | refine And.intro rfl ?_)) (fun x_205 s_204 => (tg_tup rfl (tgs_cons (tg_name 4) (tgs_cons (tg_name 5) tgs_nil)))) (fun x_205 s_204 N_206 nx_209 hN_208 => (ts_seq0 (ts_if (tb_or (tb_tst (te_op o_ge (te_var 4 (x := x_205.1) (e := eI) rfl) (te_cb1 o_lenL (te_var 2 (x := owed_199) (e := (eL eI)) rfl)))) (tb_tst (te_isNO nn_I (te_call3 c__law_number (te_var 5 (x := x_205.2) (e := eS) rfl) (te_int 0) (te_op o_ixL (te_var 2 (x := owed_199) (e := (eL eI)) rfl) (te_var 4 (x := x_205.1) (e := eI) rfl)))))) (ts_ret hr (te_co (eL eI) (fun _ => rfl) (te_lstL (tl_cons (te_var 4 (x := x_205.1) (e := eI) rfl) tl_nil)))) (ts_via (ts_last (ts_app 3 (xs := s_204) rfl (te_cb1 o_intS (te_var 5 (x := x_205.2) (e := eS) rfl)) (fun z_211 => (ts_fall hN_208 (s_204 ++ [z_211]) (by repeat (first | exact True.intro | refine And.intro rfl ?_)))))))))) (fun s_204 => (ts_frz1 3 (xs := s_204) rfl (ts_ret hr (te_if (tb_tst (te_op o_eqI (te_cb1 o_lenL (te_var 3 (x := s_204) (e := (eL eI)) rfl)) (te_cb1 o_lenL (te_var 2 (x := owed_199) (e := (eL eI)) rfl)))) (te_co (eT eI) (fun _ => rfl) (te_cb1 o_tupleL (te_var 3 (x := s_204) (e := (eL eI)) rfl))) (te_co (eL eI) (fun _ => rfl) (te_lstL (tl_cons (te_cb1 o_lenL (te_var 3 (x := s_204) (e := (eL eI)) rfl)) tl_nil)))))))))))))
  exact h _ m (u__law_due_payments t__law_debts t__law_number book_here_197 value_198 Q E q)
theorem law__law_changed : ∀ ds Q E, sp__law_changed ds Q E → d__law_changed { nx := fun _ => Q .non, rt := Q, ex := E } (dstart 7 ds) := by
  rintro ds Qd E ⟨box_212, text_213, Q, rfl, hr, q⟩
  have m : Me [some (.v (eBx box_212)), some (.v (eS text_213)), none, none, none, none, none] [.v (eBx box_212), .v (eS text_213), .no, .no, .no, .no, .no] := (me_of [.v (eBx box_212), .v (eS text_213), .no, .no, .no, .no, .no]).sub (by repeat (first | exact True.intro | refine And.intro rfl ?_))
  have h : TS [some (.v (eBx box_212)), some (.v (eS text_213)), none, none, none, none, none] (d__law_changed) { nx := fun _ => Qd .non, rt := Qd, ex := E } (bindP (bindW (pureW box_212) fun x0 => bindW (bindW (bindW (pureW text_213) lenS) fun x => bindW (pureW (1 : Int)) fun y => addI x y) fun x1 => t__law_draw x0 x1) (fun at_214 => bindP (bindW (bindW (pureW ("0" : Str)) fun x => bindW (bindW (pureW ("1" : Str)) fun x => bindW (bindW (pureW ("9" : Str)) fun x => bindW (bindW (pureW (" " : Str)) fun x => bindW (bindW (pureW ("-" : Str)) fun x => bindW (bindW (pureW (":" : Str)) fun x => bindW (bindW (pureW ("," : Str)) fun x => bindW (bindW (pureW ("a" : Str)) fun x => bindW (bindW (pureW ("+" : Str)) fun x => bindW (bindW (pureW ("." : Str)) fun x => bindW (bindW (pureW ("" : Str)) fun x => bindW (bindW (pureW ("00" : Str)) fun x => bindW (bindW (pureW ("  " : Str)) fun x => bindW (bindW (pureW ("\n" : Str)) fun x => bindW (pureW []) fun xs => pureW (x :: xs)) fun xs => pureW (x :: xs)) fun xs => pureW (x :: xs)) fun xs => pureW (x :: xs)) fun xs => pureW (x :: xs)) fun xs => pureW (x :: xs)) fun xs => pureW (x :: xs)) fun xs => pureW (x :: xs)) fun xs => pureW (x :: xs)) fun xs => pureW (x :: xs)) fun xs => pureW (x :: xs)) fun xs => pureW (x :: xs)) fun xs => pureW (x :: xs)) fun xs => pureW (x :: xs)) szW) (fun signs_215 => bindP (bindW (bindW (bindW (bindW (bindW (pureW text_213) fun z => bindW (pureW none) fun l => bindW (bindW (pureW at_214) fun i => pureW (some i)) fun h => cutSW z l h) fun x => bindW (bindW (pureW box_212) fun x0 => bindW (pureW signs_215) fun x1 => t__law_one x0 x1) fun y => catS x y) fun x => bindW (bindW (pureW text_213) fun z => bindW (bindW (pureW at_214) fun i => pureW (some i)) fun l => bindW (pureW none) fun h => cutSW z l h) fun y => catS x y) fun x => bindW (bindW (bindW (bindW (pureW text_213) fun z => bindW (pureW none) fun l => bindW (bindW (pureW at_214) fun i => pureW (some i)) fun h => cutSW z l h) fun x => bindW (bindW (pureW text_213) fun z => bindW (bindW (bindW (pureW at_214) fun x => bindW (pureW (1 : Int)) fun y => addI x y) fun i => pureW (some i)) fun l => bindW (pureW none) fun h => cutSW z l h) fun y => catS x y) fun x => bindW (bindW (bindW (pureW text_213) fun x => bindW (bindW (pureW box_212) fun x0 => bindW (pureW signs_215) fun x1 => t__law_one x0 x1) fun y => catS x y) fun x => bindW (pureW []) fun xs => pureW (x :: xs)) fun xs => pureW (x :: xs)) fun xs => pureW (x :: xs)) szW) (fun some_216 => bindP (bindW (pureW text_213) fun x => bindW (pureW (" " : Str)) fun y => splW x y) (fun words_217 => bindP (bindW (pureW box_212) fun x0 => bindW (bindW (pureW words_217) lenW) fun x1 => t__law_draw x0 x1) (fun spot_218 => bindP (bindW (pureW some_216) fun x => bindW (bindW (bindW (bindW (pureW (" " : Str)) fun x => bindW (bindW (bindW (pureW words_217) fun xs => bindW (pureW none) fun l => bindW (bindW (pureW spot_218) fun i => pureW (some i)) fun h => pureW (cutT xs l h)) fun x => bindW (bindW (pureW words_217) fun xs => bindW (bindW (bindW (pureW spot_218) fun x => bindW (pureW (1 : Int)) fun y => addI x y) fun i => pureW (some i)) fun l => bindW (pureW none) fun h => pureW (cutT xs l h)) fun y => catW x y) fun y => joinW x y) fun x => bindW (bindW (bindW (pureW (" " : Str)) fun x => bindW (bindW (pureW words_217) fun x => bindW (bindW (pureW words_217) fun xs => bindW (bindW (pureW spot_218) fun i => pureW (some i)) fun l => bindW (pureW none) fun h => pureW (cutT xs l h)) fun y => catW x y) fun y => joinW x y) fun x => bindW (bindW (bindW (pureW (" " : Str)) fun x => bindW (bindW (pureW words_217) fun xs => pureW xs.reverse) fun y => joinW x y) fun x => bindW (pureW []) fun xs => pureW (x :: xs)) fun xs => pureW (x :: xs)) fun xs => pureW (x :: xs)) szW) fun y => catW x y) (fun some_219 => ((bindW (pureW box_212) fun x0 => bindW (bindW (pureW some_219) fun x => bindW (bindW (bindW (bindW (bindW (bindW (pureW text_213) fun z => bindW (pureW none) fun l => bindW (bindW (pureW at_214) fun i => pureW (some i)) fun h => cutSW z l h) fun x => bindW (bindW (pureW box_212) fun x0 => bindW (pureW signs_215) fun x1 => t__law_one x0 x1) fun y => catS x y) fun x => bindW (bindW (pureW text_213) fun z => bindW (bindW (bindW (pureW at_214) fun x => bindW (pureW (1 : Int)) fun y => addI x y) fun i => pureW (some i)) fun l => bindW (pureW none) fun h => cutSW z l h) fun y => catS x y) fun x => bindW (bindW (pureW text_213) fun x => bindW (bindW (bindW (pureW (" " : Str)) fun x => bindW (pureW text_213) fun y => catS x y) fun x => bindW (pureW []) fun xs => pureW (x :: xs)) fun xs => pureW (x :: xs)) fun xs => pureW (x :: xs)) szW) fun y => catW x y) fun x1 => t__law_one x0 x1) Q E)) E) E) E) E) E) E) := by
    simp only [d__law_changed, d__law_changed_5, r__law_changed_5, d__law_changed_4, r__law_changed_4, d__law_changed_3, r__law_changed_3, d__law_changed_2, r__law_changed_2, d__law_changed_1, r__law_changed_1, d__law_changed_0, r__law_changed_0]
    exact (ts_par 2 3 (te_call2 c__law_draw (te_var 0 (x := box_212) (e := eBx) rfl) (te_op o_add (te_cb1 o_lenS (te_var 1 (x := text_213) (e := eS) rfl)) (te_int 1))) (te_lstL (tl_cons (te_str "0") (tl_cons (te_str "1") (tl_cons (te_str "9") (tl_cons (te_str " ") (tl_cons (te_str "-") (tl_cons (te_str ":") (tl_cons (te_str ",") (tl_cons (te_str "a") (tl_cons (te_str "+") (tl_cons (te_str ".") (tl_cons (te_str "") (tl_cons (te_str "00") (tl_cons (te_str "  ") (tl_cons (te_str "\n") tl_nil))))))))))))))) (fun at_214 signs_215 => (ts_set 4 (te_lstL (tl_cons (te_op o_catS (te_op o_catS (te_slS (te_var 1 (x := text_213) (e := eS) rfl) tp_none (tp_some (te_var 2 (x := at_214) (e := eI) rfl))) (te_call2 c__law_one (te_var 0 (x := box_212) (e := eBx) rfl) (te_var 3 (x := signs_215) (e := (eL eS)) rfl))) (te_slS (te_var 1 (x := text_213) (e := eS) rfl) (tp_some (te_var 2 (x := at_214) (e := eI) rfl)) tp_none)) (tl_cons (te_op o_catS (te_slS (te_var 1 (x := text_213) (e := eS) rfl) tp_none (tp_some (te_var 2 (x := at_214) (e := eI) rfl))) (te_slS (te_var 1 (x := text_213) (e := eS) rfl) (tp_some (te_op o_add (te_var 2 (x := at_214) (e := eI) rfl) (te_int 1))) tp_none)) (tl_cons (te_op o_catS (te_var 1 (x := text_213) (e := eS) rfl) (te_call2 c__law_one (te_var 0 (x := box_212) (e := eBx) rfl) (te_var 3 (x := signs_215) (e := (eL eS)) rfl))) tl_nil)))) (fun some_216 => (ts_set 5 (te_frz (tn_split (te_var 1 (x := text_213) (e := eS) rfl) (te_str " "))) (fun words_217 => (ts_set 6 (te_call2 c__law_draw (te_var 0 (x := box_212) (e := eBx) rfl) (te_cb1 o_lenL (te_var 5 (x := words_217) (e := (eL eS)) rfl))) (fun spot_218 => (ts_set 4 (te_op o_catL (te_var 4 (x := some_216) (e := (eL eS)) rfl) (te_lstL (tl_cons (te_joinS (te_str " ") (te_op o_catL (te_slL (te_var 5 (x := words_217) (e := (eL eS)) rfl) tp_none (tp_some (te_var 6 (x := spot_218) (e := eI) rfl))) (te_slL (te_var 5 (x := words_217) (e := (eL eS)) rfl) (tp_some (te_op o_add (te_var 6 (x := spot_218) (e := eI) rfl) (te_int 1))) tp_none))) (tl_cons (te_joinS (te_str " ") (te_op o_catL (te_var 5 (x := words_217) (e := (eL eS)) rfl) (te_slL (te_var 5 (x := words_217) (e := (eL eS)) rfl) (tp_some (te_var 6 (x := spot_218) (e := eI) rfl)) tp_none))) (tl_cons (te_joinS (te_str " ") (te_revL (te_var 5 (x := words_217) (e := (eL eS)) rfl))) tl_nil))))) (fun some_219 => (ts_ret hr (te_call2 c__law_one (te_var 0 (x := box_212) (e := eBx) rfl) (te_op o_catL (te_var 4 (x := some_219) (e := (eL eS)) rfl) (te_lstL (tl_cons (te_op o_catS (te_op o_catS (te_slS (te_var 1 (x := text_213) (e := eS) rfl) tp_none (tp_some (te_var 2 (x := at_214) (e := eI) rfl))) (te_call2 c__law_one (te_var 0 (x := box_212) (e := eBx) rfl) (te_var 3 (x := signs_215) (e := (eL eS)) rfl))) (te_slS (te_var 1 (x := text_213) (e := eS) rfl) (tp_some (te_op o_add (te_var 2 (x := at_214) (e := eI) rfl) (te_int 1))) tp_none)) (tl_cons (te_var 1 (x := text_213) (e := eS) rfl) (tl_cons (te_op o_catS (te_str " ") (te_var 1 (x := text_213) (e := eS) rfl)) tl_nil)))))))))))))))))
  exact h _ m (u__law_changed t__law_draw box_212 text_213 Q E q)
theorem tlaw_gen (Q : Bool → Prop) (E : EK) (hr : ∀ r, Q r → (fun x => x = D.bl true) (eB r)) (q : t_law Q E) : ∀ s0, d_law { nx := fun _ => False, rt := fun x => x = .bl true, ex := E } [s0, .v (dBox), .no, .no, .no, .no, .no, .no, .no, .no, .no, .no, .no, .no] := by
  intro s0
  have m : Me [none, some (.v (eBx ())), none, none, none, none, none, none, none, none, none, none, none, none] [s0, .v (eBx ()), .no, .no, .no, .no, .no, .no, .no, .no, .no, .no, .no, .no] := (me_of [s0, .v (eBx ()), .no, .no, .no, .no, .no, .no, .no, .no, .no, .no, .no, .no]).sub (by repeat (first | exact True.intro | refine And.intro rfl ?_))
  have h : TS [none, some (.v (eBx ())), none, none, none, none, none, none, none, none, none, none, none, none] d_law { nx := fun _ => False, rt := fun x => x = .bl true, ex := E } (bindP (bindW (pureW (5 : Int)) rng1W) (fun xs => forP (fun x_256 (s_255 : Unit) N_257 B_258 => bindP (bindW (pureW ()) fun x0 => bindW (bindW (bindW (bindW (pureW (6 : Int)) fun x => bindW (bindW (pureW (3 : Int)) fun x => bindW (pureW []) fun xs => pureW (x :: xs)) fun xs => pureW (x :: xs)) szW) fun x => bindW (bindW (pureW x_256) fun x => bindW (pureW (2 : Int)) fun y => modI x y) fun y => ixW x y) fun x1 => bindW (bindW (bindW (bindW (pureW (6 : Int)) fun x => bindW (bindW (pureW (2 : Int)) fun x => bindW (pureW []) fun xs => pureW (x :: xs)) fun xs => pureW (x :: xs)) szW) fun x => bindW (bindW (pureW x_256) fun x => bindW (pureW (2 : Int)) fun y => modI x y) fun y => ixW x y) fun x2 => bindW (bindW (bindW (bindW (pureW (9 : Int)) fun x => bindW (bindW (bindW (pureW (10 : Int)) fun x => bindW (pureW (9 : Int)) fun y => powI x y) fun x => bindW (bindW (pureW (9 : Int)) fun x => bindW (pureW []) fun xs => pureW (x :: xs)) fun xs => pureW (x :: xs)) fun xs => pureW (x :: xs)) szW) fun x => bindW (bindW (pureW x_256) fun x => bindW (pureW (3 : Int)) fun y => modI x y) fun y => ixW x y) fun x3 => t__law_book x0 x1 x2 x3) (fun book_here_262 => bindP (bindW (pureW book_here_262) fun x0 => t_book_text x0) (fun text_263 => bindP (bindW (bindW (pureW ()) fun x0 => bindW (pureW book_here_262) fun x1 => t__law_payments x0 x1) fun x0 => t_payments_text x0) (fun other_264 => bindP (bindW (bindW (bindW (pureW text_263) fun x => pureW (eS x)) fun x => bindW (bindW (bindW (pureW other_264) fun x => pureW (eS x)) fun x => bindW (bindW (bindW (pureW ("" : Str)) fun x => pureW (eS x)) fun x => bindW (bindW (bindW (pureW (" " : Str)) fun x => pureW (eS x)) fun x => bindW (bindW (bindW (pureW ("0:" : Str)) fun x => pureW (eS x)) fun x => bindW (bindW (bindW (pureW ("0" : Str)) fun x => pureW (eS x)) fun x => bindW (bindW (bindW (pureW ("0: 0:" : Str)) fun x => pureW (eS x)) fun x => bindW (bindW (bindW (pureW ("0:1-1" : Str)) fun x => pureW (eS x)) fun x => bindW (bindW (bindW (pureW ("5:1-2 7:0-3" : Str)) fun x => pureW (eS x)) fun x => bindW (bindW (bindW (pureW ()) fun x0 => t__law_odd x0) fun x => bindW (pureW []) fun xs => pureW (x :: xs)) fun xs => pureW (x :: xs)) fun xs => pureW (x :: xs)) fun xs => pureW (x :: xs)) fun xs => pureW (x :: xs)) fun xs => pureW (x :: xs)) fun xs => pureW (x :: xs)) fun xs => pureW (x :: xs)) fun xs => pureW (x :: xs)) fun xs => pureW (x :: xs)) szW) (fun values_265 => bindP (bindW (pureW ("9" : Str)) fun x => bindW (pureW (5000 : Int)) fun y => mulTxW x y) (fun nines_266 => bindP (bindW (pureW values_265) fun x => bindW (bindW (bindW (bindW (bindW (bindW (pureW text_263) fun x => bindW (pureW []) fun xs => pureW (x :: xs)) szW) fun x => pureW ((eL eS) x)) fun x => bindW (bindW (bindW (bindW (bindW (pureW text_263) fun x => bindW (pureW []) fun xs => pureW (x :: xs)) szW) fun x => pureW ((eT eS) x)) fun x => bindW (bindW (pureW D.non) fun x => bindW (bindW (bindW (pureW nines_266) fun x => pureW (eS x)) fun x => bindW (bindW (bindW (bindW (pureW nines_266) fun x => bindW (pureW (":" : Str)) fun y => catS x y) fun x => pureW (eS x)) fun x => bindW (bindW (bindW (bindW (bindW (pureW ("0:1-" : Str)) fun x => bindW (pureW nines_266) fun y => catS x y) fun x => bindW (pureW (" 0:" : Str)) fun y => catS x y) fun x => pureW (eS x)) fun x => bindW (bindW (bindW (bindW (bindW (pureW ("0:" : Str)) fun x => bindW (pureW nines_266) fun y => catS x y) fun x => bindW (pureW ("-1" : Str)) fun y => catS x y) fun x => pureW (eS x)) fun x => bindW (pureW []) fun xs => pureW (x :: xs)) fun xs => pureW (x :: xs)) fun xs => pureW (x :: xs)) fun xs => pureW (x :: xs)) fun xs => pureW (x :: xs)) fun xs => pureW (x :: xs)) fun xs => pureW (x :: xs)) szW) fun y => catW x y) (fun values_267 => bindP (bindW (bindW (pureW (" " : Str)) fun x => bindW (bindW (bindW (bindW (pureW ("0:" : Str)) fun x => bindW (pureW []) fun xs => pureW (x :: xs)) szW) fun x => bindW (bindW (pureW ()) fun x0 => bindW (bindW (bindW (pureW (6 : Int)) fun x => bindW (bindW (pureW (7 : Int)) fun x => bindW (pureW []) fun xs => pureW (x :: xs)) fun xs => pureW (x :: xs)) szW) fun x1 => t__law_one x0 x1) fun y => repL x y) fun y => joinW x y) fun x => pureW (eS x)) (fun z_268 => appP values_267 (bindP (bindW (pureW (9 : Int)) rng1W) (fun xs => forP (fun x_275 (s_274 : (List D)) N_276 B_277 => bindP (bindW (pureW ()) fun x0 => bindW (pureW text_263) fun x1 => t__law_changed x0 x1) (fun first_281 => bindP (bindW (pureW ()) fun x0 => bindW (pureW other_264) fun x1 => t__law_changed x0 x1) (fun second_282 => bindP (bindW (pureW s_274) fun x => bindW (bindW (bindW (bindW (pureW first_281) fun x => pureW (eS x)) fun x => bindW (bindW (bindW (pureW second_282) fun x => pureW (eS x)) fun x => bindW (bindW (bindW (bindW (pureW ()) fun x0 => bindW (pureW first_281) fun x1 => t__law_changed x0 x1) fun x => pureW (eS x)) fun x => bindW (bindW (bindW (bindW (pureW ()) fun x0 => bindW (pureW second_282) fun x1 => t__law_changed x0 x1) fun x => pureW (eS x)) fun x => bindW (pureW []) fun xs => pureW (x :: xs)) fun xs => pureW (x :: xs)) fun xs => pureW (x :: xs)) fun xs => pureW (x :: xs)) szW) fun y => catW x y) (fun values_283 => N_276 values_283) E) E) E) (fun (s_274 : (List D)) => bindP (pureW s_274) (fun xs => forP (fun x_288 (s_287 : Unit) N_289 B_290 => bindP (bindW (pureW x_288) (fun x => reprW (eA x))) (fun shown_294 => bindP (bindW (bindW (bindW (pureW D.non) fun x0 => bindW (pureW x_288) fun x1 => t__law_told x0 x1) (fun x => reprW (eA x))) fun x => bindW (bindW (bindW (pureW x_288) fun x0 => t__law_due_book x0) (fun x => reprW (eA x))) fun y => neW x y) (fun b => ifP b (((pureW false) Q E)) (bindP (bindW (bindW (bindW (bindW (bindW (pureW book_here_262) fun x => pureW ((eT (eP eI (eT (eP eI eI)))) x)) fun x0 => bindW (pureW x_288) fun x1 => t__law_told x0 x1) (fun x => reprW (eA x))) fun x => bindW (bindW (bindW (pureW book_here_262) fun x0 => bindW (pureW x_288) fun x1 => t__law_due_payments x0 x1) (fun x => reprW (eA x))) fun y => neW x y) fun c => ifW c (pureW true) (bindW (bindW (pureW x_288) (fun x => reprW (eA x))) fun x => bindW (pureW shown_294) fun y => neW x y)) (fun b => ifP b (((pureW false) Q E)) (N_289 ())) E)) E) E) (fun (s_287 : Unit) => N_257 ()) xs ()) E) xs (values_267 ++ [z_268])) E)) E) E) E) E) E) E) E) (fun (s_255 : Unit) => bindP (bindW (bindW (bindW (pureW (6 : Int)) fun x => bindW (bindW (pureW (7 : Int)) fun x => bindW (pureW []) fun xs => pureW (x :: xs)) fun xs => pureW (x :: xs)) szW) fun xs => lcW (fun a_296 => (pureW true)) (fun a_296 => (bindW (bindW (pureW ("0:" : Str)) fun x => bindW (bindW (pureW ("," : Str)) fun x => bindW (bindW (bindW (bindW (pureW ("1-1" : Str)) fun x => bindW (pureW []) fun xs => pureW (x :: xs)) szW) fun x => bindW (pureW a_296) fun y => repL x y) fun y => joinW x y) fun y => catS x y) fun x => bindW (pureW (" 0:" : Str)) fun y => catS x y)) xs) (fun texts_295 => bindP (bindW (bindW (bindW (pureW D.non) fun x0 => bindW (bindW (bindW (pureW texts_295) fun x => bindW (pureW (0 : Int)) fun y => ixW x y) fun x => pureW (eS x)) fun x1 => t__law_told x0 x1) (fun x => reprW (eA x))) fun x => bindW (bindW (bindW (bindW (pureW (0 : Int)) fun x => bindW (bindW (bindW (bindW (bindW (pureW (1 : Int)) fun x => bindW (pureW (1 : Int)) fun y => pureW (x, y)) fun x => bindW (pureW []) fun xs => pureW (x :: xs)) szW) fun x => bindW (pureW (6 : Int)) fun y => repT x y) fun y => pureW (x, y)) fun x => bindW (bindW (pureW (0 : Int)) fun x => bindW (bindW (pureW []) szW) fun y => pureW (x, y)) fun y => pureW (x, y)) (fun x => reprW ((eP (eP eI (eT (eP eI eI))) (eP eI (eT eI))) x))) fun y => neW x y) (fun b => ifP b (((pureW false) Q E)) (((bindW (bindW (bindW (bindW (bindW (pureW D.non) fun x0 => bindW (bindW (bindW (pureW texts_295) fun x => bindW (pureW (1 : Int)) fun y => ixW x y) fun x => pureW (eS x)) fun x1 => t__law_told x0 x1) fun x => bindW (bindW (bindW (pureW D.non) fun x0 => bindW (bindW (pureW ("1000000000001:" : Str)) fun x => pureW (eS x)) fun x1 => t__law_told x0 x1) fun x => bindW (pureW []) fun xs => pureW (x :: xs)) fun xs => pureW (x :: xs)) szW) fun x => pureW ((eL eA) x)) fun x => bindW (bindW (bindW (bindW (bindW (bindW (pureW (0 : Int)) fun x => bindW (pureW []) fun xs => pureW (x :: xs)) szW) fun x => bindW (bindW (bindW (bindW (pureW (0 : Int)) fun x => bindW (pureW []) fun xs => pureW (x :: xs)) szW) fun x => bindW (pureW []) fun xs => pureW (x :: xs)) fun xs => pureW (x :: xs)) szW) fun x => pureW ((eL (eL eI)) x)) fun y => eqA x y) Q E))) E) E) xs ()) E) := by
    simp only [d_law, d_law_0b_6b_1, r_law_0b_6b_1, d_law_0b_6b_0, r_law_0b_6b_0, d_law_0b_7b_2, r_law_0b_7b_2, d_law_0b_7b_1, r_law_0b_7b_1, d_law_0b_7b_0, r_law_0b_7b_0, d_law_0b_7, r_law_0b_7, d_law_0b_6, r_law_0b_6, d_law_0b_5, r_law_0b_5, d_law_0b_4, r_law_0b_4, d_law_0b_3, r_law_0b_3, d_law_0b_2, r_law_0b_2, d_law_0b_1, r_law_0b_1, d_law_0b_0, r_law_0b_0, d_law_3, r_law_3, d_law_2, r_law_2, d_law_1, r_law_1, d_law_0, r_law_0]
    exact (ts_for (fun (s_255 : Unit) => [none, some (.v (eBx ())), none, none, none, none, none, none, none, none, none, none, none, none]) () (ps1 := fun x_256 s_255 => [none, some (.v (eBx ())), some (.v (eI x_256)), none, none, none, none, none, none, none, none, none, none, none]) (ti_rng1 (te_int 5)) (by repeat (first | exact True.intro | refine And.intro rfl ?_)) (fun x_256 s_255 => (tg_name 2)) (fun x_256 s_255 N_257 nx_260 hN_259 => (ts_set 3 (te_call4 c__law_book (te_var 1 (x := ()) (e := eBx) rfl) (te_op o_ixL (te_lstL (tl_cons (te_int 6) (tl_cons (te_int 3) tl_nil))) (te_op o_mod (te_var 2 (x := x_256) (e := eI) rfl) (te_int 2))) (te_op o_ixL (te_lstL (tl_cons (te_int 6) (tl_cons (te_int 2) tl_nil))) (te_op o_mod (te_var 2 (x := x_256) (e := eI) rfl) (te_int 2))) (te_op o_ixL (te_lstL (tl_cons (te_int 9) (tl_cons (te_op o_pow (te_int 10) (te_int 9)) (tl_cons (te_int 9) tl_nil)))) (te_op o_mod (te_var 2 (x := x_256) (e := eI) rfl) (te_int 3)))) (fun book_here_262 => (ts_par 4 5 (te_call1 c_book_text (te_var 3 (x := book_here_262) (e := (eT (eP eI (eT (eP eI eI))))) rfl)) (te_call1 c_payments_text (te_call2 c__law_payments (te_var 1 (x := ()) (e := eBx) rfl) (te_var 3 (x := book_here_262) (e := (eT (eP eI (eT (eP eI eI))))) rfl))) (fun text_263 other_264 => (ts_setO 6 (tn_lst (tl_cons (te_co eS (fun _ => rfl) (te_var 4 (x := text_263) (e := eS) rfl)) (tl_cons (te_co eS (fun _ => rfl) (te_var 5 (x := other_264) (e := eS) rfl)) (tl_cons (te_co eS (fun _ => rfl) (te_str "")) (tl_cons (te_co eS (fun _ => rfl) (te_str " ")) (tl_cons (te_co eS (fun _ => rfl) (te_str "0:")) (tl_cons (te_co eS (fun _ => rfl) (te_str "0")) (tl_cons (te_co eS (fun _ => rfl) (te_str "0: 0:")) (tl_cons (te_co eS (fun _ => rfl) (te_str "0:1-1")) (tl_cons (te_co eS (fun _ => rfl) (te_str "5:1-2 7:0-3")) (tl_cons (te_call1 c__law_odd (te_var 1 (x := ()) (e := eBx) rfl)) tl_nil))))))))))) (fun values_265 => (ts_set 7 (te_op o_mulTx (te_str "9") (te_int 5000)) (fun nines_266 => (ts_frz 6 (xs := values_265) rfl (ts_setO 6 (tn_cat (te_var 6 (x := values_265) (e := (eL eA)) rfl) (te_lstL (tl_cons (te_co (eL eS) (fun _ => rfl) (te_lstL (tl_cons (te_var 4 (x := text_263) (e := eS) rfl) tl_nil))) (tl_cons (te_co (eT eS) (fun _ => rfl) (te_tupL (tl_cons (te_var 4 (x := text_263) (e := eS) rfl) tl_nil))) (tl_cons te_nonA (tl_cons (te_co eS (fun _ => rfl) (te_var 7 (x := nines_266) (e := eS) rfl)) (tl_cons (te_co eS (fun _ => rfl) (te_op o_catS (te_var 7 (x := nines_266) (e := eS) rfl) (te_str ":"))) (tl_cons (te_co eS (fun _ => rfl) (te_op o_catS (te_op o_catS (te_str "0:1-") (te_var 7 (x := nines_266) (e := eS) rfl)) (te_str " 0:"))) (tl_cons (te_co eS (fun _ => rfl) (te_op o_catS (te_op o_catS (te_str "0:") (te_var 7 (x := nines_266) (e := eS) rfl)) (te_str "-1"))) tl_nil))))))))) (fun values_267 => (ts_app 6 (xs := values_267) rfl (te_co eS (fun _ => rfl) (te_joinS (te_str " ") (te_op o_repL (te_lstL (tl_cons (te_str "0:") tl_nil)) (te_call2 c__law_one (te_var 1 (x := ()) (e := eBx) rfl) (te_lstL (tl_cons (te_int 6) (tl_cons (te_int 7) tl_nil))))))) (fun z_268 => (ts_for (fun (s_274 : (List D)) => [none, some (.v (eBx ())), some (.v (eI x_256)), some (.v ((eT (eP eI (eT (eP eI eI)))) book_here_262)), some (.v (eS text_263)), some (.v (eS other_264)), some (.own ((s_274 : (List D)).map eA)), some (.v (eS nines_266)), none, none, none, none, none, none]) (values_267 ++ [z_268]) (ps1 := fun x_275 s_274 => [none, some (.v (eBx ())), some (.v (eI x_256)), some (.v ((eT (eP eI (eT (eP eI eI)))) book_here_262)), some (.v (eS text_263)), some (.v (eS other_264)), some (.own ((s_274 : (List D)).map eA)), some (.v (eS nines_266)), some (.v (eI x_275)), none, none, none, none, none]) (ti_rng1 (te_int 9)) (by repeat (first | exact True.intro | refine And.intro rfl ?_)) (fun x_275 s_274 => (tg_name 8)) (fun x_275 s_274 N_276 nx_279 hN_278 => (ts_par 9 10 (te_call2 c__law_changed (te_var 1 (x := ()) (e := eBx) rfl) (te_var 4 (x := text_263) (e := eS) rfl)) (te_call2 c__law_changed (te_var 1 (x := ()) (e := eBx) rfl) (te_var 5 (x := other_264) (e := eS) rfl)) (fun first_281 second_282 => (ts_last (ts_frz 6 (xs := s_274) rfl (ts_setO 6 (tn_cat (te_var 6 (x := s_274) (e := (eL eA)) rfl) (te_lstL (tl_cons (te_co eS (fun _ => rfl) (te_var 9 (x := first_281) (e := eS) rfl)) (tl_cons (te_co eS (fun _ => rfl) (te_var 10 (x := second_282) (e := eS) rfl)) (tl_cons (te_co eS (fun _ => rfl) (te_call2 c__law_changed (te_var 1 (x := ()) (e := eBx) rfl) (te_var 9 (x := first_281) (e := eS) rfl))) (tl_cons (te_co eS (fun _ => rfl) (te_call2 c__law_changed (te_var 1 (x := ()) (e := eBx) rfl) (te_var 10 (x := second_282) (e := eS) rfl))) tl_nil)))))) (fun values_283 => (ts_fall hN_278 values_283 (by repeat (first | exact True.intro | refine And.intro rfl ?_)))))))))) (fun s_274 => (ts_last (ts_frz 6 (xs := s_274) rfl (ts_for (fun (s_287 : Unit) => [none, some (.v (eBx ())), some (.v (eI x_256)), some (.v ((eT (eP eI (eT (eP eI eI)))) book_here_262)), some (.v (eS text_263)), some (.v (eS other_264)), some (.v ((eL eA) s_274)), some (.v (eS nines_266)), none, none, none, none, none, none]) () (ps1 := fun x_288 s_287 => [none, some (.v (eBx ())), some (.v (eI x_256)), some (.v ((eT (eP eI (eT (eP eI eI)))) book_here_262)), some (.v (eS text_263)), some (.v (eS other_264)), some (.v ((eL eA) s_274)), some (.v (eS nines_266)), none, none, none, some (.v (eA x_288)), none, none]) (ti_L (te_var 6 (x := s_274) (e := (eL eA)) rfl)) (by repeat (first | exact True.intro | refine And.intro rfl ?_)) (fun x_288 s_287 => (tg_name 11)) (fun x_288 s_287 N_289 nx_292 hN_291 => (ts_set 12 (te_cb1 o_repr (te_var 11 (x := x_288) (e := eA) rfl)) (fun shown_294 => (ts_seq0 (ts_if (tb_tst (te_op (o_ne eq_S (by decide) ni_S) (te_cb1 o_repr (te_call2 c__law_told te_nonA (te_var 11 (x := x_288) (e := eA) rfl))) (te_cb1 o_repr (te_call1 c__law_due_book (te_var 11 (x := x_288) (e := eA) rfl))))) (ts_ret hr (te_bl false)) (ts_via (ts_last (ts_seq0 (ts_if (tb_or (tb_tst (te_op (o_ne eq_S (by decide) ni_S) (te_cb1 o_repr (te_call2 c__law_told (te_co (eT (eP eI (eT (eP eI eI)))) (fun _ => rfl) (te_var 3 (x := book_here_262) (e := (eT (eP eI (eT (eP eI eI))))) rfl)) (te_var 11 (x := x_288) (e := eA) rfl))) (te_cb1 o_repr (te_call2 c__law_due_payments (te_var 3 (x := book_here_262) (e := (eT (eP eI (eT (eP eI eI))))) rfl) (te_var 11 (x := x_288) (e := eA) rfl))))) (tb_tst (te_op (o_ne eq_S (by decide) ni_S) (te_cb1 o_repr (te_var 11 (x := x_288) (e := eA) rfl)) (te_var 12 (x := shown_294) (e := eS) rfl)))) (ts_ret hr (te_bl false)) (ts_via (ts_fall hN_291 () (by repeat (first | exact True.intro | refine And.intro rfl ?_))))))))))))) (fun s_287 => (ts_fall hN_259 () (by repeat (first | exact True.intro | refine And.intro rfl ?_))))))))))))))))))))))) (fun s_255 => (ts_setN 13 (tn_lc (ps1 := fun a_296 => [none, some (.v (eBx ())), none, none, none, none, none, none, some (.v (eI a_296)), none, none, none, none, none]) (ti_L (te_lstL (tl_cons (te_int 6) (tl_cons (te_int 7) tl_nil)))) (fun a_296 => (tg_name 8)) (fun a_296 => tb_yes) (fun a_296 => (te_op o_catS (te_op o_catS (te_str "0:") (te_joinS (te_str ",") (te_op o_repL (te_lstL (tl_cons (te_str "1-1") tl_nil)) (te_var 8 (x := a_296) (e := eI) rfl)))) (te_str " 0:")))) (fun texts_295 => (ts_seq0 (ts_if (tb_tst (te_op (o_ne eq_S (by decide) ni_S) (te_cb1 o_repr (te_call2 c__law_told te_nonA (te_co eS (fun _ => rfl) (te_op o_ixL (te_var 13 (x := texts_295) (e := (eL eS)) rfl) (te_int 0))))) (te_cb1 o_repr (te_tup2 (te_tup2 (te_int 0) (te_op o_repT (te_tupL (tl_cons (te_tup2 (te_int 1) (te_int 1)) tl_nil)) (te_int 6))) (te_tup2 (te_int 0) (te_tupL (tl_nil : TL _ _ eI _))))))) (ts_ret hr (te_bl false)) (ts_via (ts_ret hr (te_op o_eqA (te_co (eL eA) (fun _ => rfl) (te_lstL (tl_cons (te_call2 c__law_told te_nonA (te_co eS (fun _ => rfl) (te_op o_ixL (te_var 13 (x := texts_295) (e := (eL eS)) rfl) (te_int 1)))) (tl_cons (te_call2 c__law_told te_nonA (te_co eS (fun _ => rfl) (te_str "1000000000001:"))) tl_nil)))) (te_co (eL (eL eI)) (fun _ => rfl) (te_lstL (tl_cons (te_lstL (tl_cons (te_int 0) tl_nil)) (tl_cons (te_lstL (tl_cons (te_int 0) tl_nil)) tl_nil)))))))))))))
  exact h _ m (u_law t__law_book t_book_text t__law_payments t_payments_text t__law_odd t__law_changed t__law_told t__law_due_book t__law_due_payments Q E q)
theorem tlaw_law (q : t_law (fun b => b = true) (fun _ => False)) : ∀ s0, d_law { nx := fun _ => False, rt := fun x => x = .bl true, ex := fun _ => False } [s0, .v (dBox), .no, .no, .no, .no, .no, .no, .no, .no, .no, .no, .no, .no] := tlaw_gen _ _ (fun r h => by show D.bl r = D.bl true; rw [show r = true from h]) q
section
variable {α β σ : Type}
theorem szle {n : Nat} (h : n ≤ 16000000) : szOk n := by show n ≤ sizeLine; rw [sizeLine_eq]; omega
theorem szlt {n : Nat} (h : n ≤ 16000000) : n < sizeLine := by rw [sizeLine_eq]; omega
theorem szle' {n : Nat} (h : n ≤ 16000000) : n ≤ sizeLine := by rw [sizeLine_eq]; omega
theorem szOk_small {n : Nat} (h : n ≤ 1000) : szOk n = True := eq_true (szle (by omega))
theorem pureW_d (x : α) : pureW x = fun (Q : α → Prop) (_ : EK) => Q x := rfl
theorem bindW_d (m : W α) (f : α → W β) : bindW m f = fun (Q : β → Prop) (E : EK) => m (fun x => f x Q E) E := rfl
theorem ifW_d (c : Bool) (a b : W α) : ifW c a b = fun (Q : α → Prop) (E : EK) => if c = true then a Q E else b Q E := rfl
theorem lcP_map {h : α → W β} {E : EK} (g : α → β) : ∀ (xs : List α) (acc : List β) {Q : List β → Prop}, (∀ x ∈ xs, ∀ Y : β → Prop, Y (g x) → h x Y E) → Q (acc ++ xs.map g) → lcP (fun _ Q' _ => Q' true) h E xs acc Q
  | [], acc, Q, _, k => by simpa [lcP] using k
  | x :: xs, acc, Q, hh, k => by
    show h x _ E
    refine hh x (by simp) _ (lcP_map g xs _ (fun y hy => hh y (List.mem_cons_of_mem _ hy)) (by simpa using k))
theorem lc_map {h : α → W β} {xs : List α} {Q : List β → Prop} (g : α → β) (hl : xs.length ≤ 16000000) (hh : ∀ x ∈ xs, ∀ Y : β → Prop, Y (g x) → h x Y (fun _ => False)) (k : Q (xs.map g)) :
    xs.length ≤ sizeLine ∧ lcP (fun _ Q' _ => Q' true) h (fun _ => False) xs [] Q := ⟨szle' hl, lcP_map g xs [] hh (by simpa using k)⟩
theorem lcP_filter {t : α → W Bool} {h : α → W β} {E : EK} (g : α → Option β) : ∀ (xs : List α) (acc : List β) {Q : List β → Prop},
    (∀ x ∈ xs, ∀ (Y : β → Prop) (N : Prop), (∀ y, g x = some y → Y y) → (g x = none → N) → t x (fun b => if b = true then h x Y E else N) E) → Q (acc ++ xs.filterMap g) → lcP t h E xs acc Q
  | [], acc, Q, _, k => by simpa [lcP] using k
  | x :: xs, acc, Q, hh, k => by
    simp only [lcP]
    refine hh x (by simp) _ _ (fun y e => lcP_filter g xs _ (fun y hy => hh y (List.mem_cons_of_mem _ hy)) ?_) (fun e => lcP_filter g xs _ (fun y hy => hh y (List.mem_cons_of_mem _ hy)) ?_)
    · rw [List.filterMap_cons, e] at k; simpa using k
    · rw [List.filterMap_cons, e] at k; simpa using k
theorem lc_filter {t : α → W Bool} {h : α → W β} {xs : List α} {Q : List β → Prop} (g : α → Option β) (hl : xs.length ≤ 16000000) (hh : ∀ x ∈ xs, ∀ (Y : β → Prop) (N : Prop), (∀ y, g x = some y → Y y) → (g x = none → N) → t x (fun b => if b = true then h x Y (fun _ => False) else N) (fun _ => False))
    (k : Q (xs.filterMap g)) : xs.length ≤ sizeLine ∧ lcP t h (fun _ => False) xs [] Q := ⟨szle' hl, lcP_filter g xs [] hh (by simpa using k)⟩
inductive F2 (R : α → β → Prop) : List α → List β → Prop where
  | nil : F2 R [] []
  | cons {x : α} {y : β} {xs : List α} {ys : List β} : R x y → F2 R xs ys → F2 R (x :: xs) (y :: ys)
theorem F2.length {R : α → β → Prop} : ∀ {xs : List α} {ys : List β}, F2 R xs ys → ys.length = xs.length
  | _, _, .nil => rfl
  | _, _, .cons _ t => by rw [List.length_cons, List.length_cons, t.length]
theorem F2.mem {R : α → β → Prop} : ∀ {xs : List α} {ys : List β}, F2 R xs ys → ∀ y ∈ ys, ∃ x ∈ xs, R x y
  | _, _, .nil, y, h => by cases h
  | _, _, .cons (x := x) r t, y, h => by
    rcases List.mem_cons.mp h with rfl | h
    · exact ⟨x, by simp, r⟩
    · obtain ⟨z, hz, q⟩ := t.mem y h; exact ⟨z, List.mem_cons_of_mem _ hz, q⟩
theorem F2.get {R : α → β → Prop} : ∀ {xs : List α} {ys : List β}, F2 R xs ys → ∀ {i : Nat} {y : β}, ys[i]? = some y → ∃ x, xs[i]? = some x ∧ R x y
  | _, _, .nil, i, y, h => by simp at h
  | _, _, .cons (x := x) r t, 0, y, h => by simp at h; subst h; exact ⟨x, rfl, r⟩
  | _, _, .cons r t, i + 1, y, h => by simpa using t.get (i := i) (by simpa using h)
theorem lcP_rel {h : α → W β} {E : EK} (R : α → β → Prop) : ∀ (xs : List α) (acc : List β) {Q : List β → Prop}, (∀ x ∈ xs, ∀ Y : β → Prop, (∀ y, R x y → Y y) → h x Y E) → (∀ ys, F2 R xs ys → Q (acc ++ ys)) → lcP (fun _ Q' _ => Q' true) h E xs acc Q
  | [], acc, Q, _, k => by simpa [lcP] using k [] .nil
  | x :: xs, acc, Q, hh, k => by
    show h x _ E
    refine hh x (by simp) _ fun y r => lcP_rel R xs _ (fun y hy => hh y (List.mem_cons_of_mem _ hy)) fun ys q => ?_
    have := k (y :: ys) (.cons r q)
    simpa using this
theorem lc_rel {h : α → W β} {xs : List α} {Q : List β → Prop} (R : α → β → Prop) (hl : xs.length ≤ 16000000) (hh : ∀ x ∈ xs, ∀ Y : β → Prop, (∀ y, R x y → Y y) → h x Y (fun _ => False)) (k : ∀ ys, F2 R xs ys → Q ys) :
    xs.length ≤ sizeLine ∧ lcP (fun _ Q' _ => Q' true) h (fun _ => False) xs [] Q := ⟨szle' hl, lcP_rel R xs [] hh (by simpa using k)⟩
theorem forP_ind {body : α → σ → (σ → Prop) → (σ → Prop) → Prop} {K : σ → Prop} (I : List α → σ → Prop) (h0 : ∀ s, I [] s → K s) (hs : ∀ x r s, I (x :: r) s → ∀ N : σ → Prop, (∀ s', I r s' → N s') → body x s N K) : ∀ xs s, I xs s → forP body K xs s
  | [], s, h => h0 s h
  | x :: r, s, h => hs x r s h _ fun s' h' => forP_ind I h0 hs r s' h'
theorem forP_all {body : α → Unit → (Unit → Prop) → (Unit → Prop) → Prop} {K : Unit → Prop} (xs : List α) (hs : ∀ x ∈ xs, ∀ N : Unit → Prop, N () → body x () N K) (h0 : K ()) : forP body K xs () := by
  refine forP_ind (fun r _ => ∀ x ∈ r, x ∈ xs) (fun _ _ => h0) (fun x r s h N k => ?_) xs () (fun x h => h)
  exact hs x (h x (by simp)) N (k () fun y hy => h y (List.mem_cons_of_mem _ hy))
theorem atI_app (xs : List α) (a : α) : atI (xs ++ [a]) (-1) = some a := by
  unfold atI ixN
  rw [if_neg (by omega), if_pos (by simp; omega)]
  have e : ((-1 : Int) + ((xs ++ [a]).length : Int)).toNat = xs.length := by simp; omega
  rw [e]; simp
theorem atI_int {xs : List α} {r : Int} (h0 : 0 ≤ r) (h1 : r < xs.length) : atI xs r = some (xs[r.toNat]'(by omega)) := by
  obtain ⟨j, rfl⟩ : ∃ j : Nat, r = (j : Int) := ⟨r.toNat, by omega⟩
  exact atI_nat (List.getElem?_eq_getElem (by omega))
theorem atI_mem {xs : List α} {r : Int} (h0 : 0 ≤ r) (h1 : r < xs.length) : ∃ y, atI xs r = some y ∧ y ∈ xs := ⟨_, atI_int h0 h1, List.getElem_mem _⟩
theorem atI_neg1 (xs : List α) : atI xs (-1) = xs.getLast? := by
  rcases List.eq_nil_or_concat xs with rfl | ⟨ys, a, rfl⟩
  · rfl
  · simp only [List.concat_eq_append]; rw [atI_app]; simp
theorem cutT_to (xs : List α) (j : Int) (h0 : 0 ≤ j) : cutT xs none (some j) = xs.take j.toNat := by
  unfold cutT
  show (xs.drop 0).take ((if j < 0 then (j + (xs.length : Int)).toNat else min j.toNat xs.length) - 0) = _
  rw [if_neg (by omega), List.drop_zero, Nat.sub_zero]
  by_cases h : j.toNat ≤ xs.length
  · rw [Nat.min_eq_left h]
  · rw [Nat.min_eq_right (by omega), List.take_of_length_le (Nat.le_refl _), List.take_of_length_le (by omega)]
theorem enI_length (xs : List α) : (enI xs).length = xs.length := by simp [enI]
theorem rgI_length (lo : Int) (n : Nat) : (rgI lo n).length = n := by simp [rgI]
theorem mem_rgI {lo x : Int} {n : Nat} : x ∈ rgI lo n ↔ lo ≤ x ∧ x < lo + n := by
  unfold rgI
  rw [List.mem_map]
  constructor
  · rintro ⟨a, ha, rfl⟩; rw [List.mem_range] at ha; omega
  · rintro ⟨h1, h2⟩; exact ⟨(x - lo).toNat, by rw [List.mem_range]; omega, by omega⟩
theorem mem_enI {xs : List α} {p : Int × α} : p ∈ enI xs ↔ ∃ i : Nat, p.1 = (i : Int) ∧ xs[i]? = some p.2 := by
  unfold enI
  rw [List.mem_map]
  constructor
  · rintro ⟨⟨a, i⟩, h, rfl⟩; exact ⟨i, rfl, List.mem_zipIdx_iff_getElem?.mp h⟩
  · rintro ⟨i, h1, h2⟩; exact ⟨(p.2, i), List.mem_zipIdx_iff_getElem?.mpr h2, by rw [← h1]⟩
end
theorem sm_T {α : Type} {e : α → D} {n m h : Nat} {xs : List α} (hl : xs.length ≤ n) (hx : ∀ x ∈ xs, Sm m h (e x)) : Sm (1 + n * m) (h + 1) (eT e xs) :=
  (SmL.of n (by rw [List.length_map]; exact hl) fun d hd => by obtain ⟨x, hx', rfl⟩ := List.mem_map.mp hd; exact hx x hx').tp
theorem sm_I {i : Int} {h : Nat} (h1 : -1000000000000000 ≤ i) (h2 : i ≤ 1000000000000000) : Sm 1 h (eI i) := .it (by omega) (by omega)
theorem in62_of {i : Int} (h : 0 ≤ i) (h2 : i ≤ 1000000000000) : in62 i := by constructor <;> omega
theorem cpow_dec {i j : Int} (h : (decide (0 ≤ j) && decide (j ≤ 1000000) && decide (i.natAbs < 2 ^ 64)) = true) : CPow i j := by
  simp only [Bool.and_eq_true, decide_eq_true_eq] at h
  exact ⟨h.1.1, h.1.2, h.2⟩
theorem forP_drop {α σ : Type} {body : α → σ → (σ → Prop) → (σ → Prop) → Prop} {K : σ → Prop} (I : Nat → σ → Prop) {xs : List α} (h0 : ∀ s, I xs.length s → K s)
    (hs : ∀ (i : Nat) x s, xs[i]? = some x → I i s → ∀ N : σ → Prop, (∀ s', I (i + 1) s' → N s') → body x s N K) : ∀ (n i : Nat) s, i + n = xs.length → I i s → forP body K (xs.drop i) s
  | 0, i, s, e, h => by
    rw [List.drop_of_length_le (by omega)]
    have : i = xs.length := by omega
    subst this; exact h0 s h
  | n + 1, i, s, e, h => by
    have hi : i < xs.length := by omega
    rw [List.drop_eq_getElem_cons hi]
    exact hs i _ s (List.getElem?_eq_getElem hi) h _ fun s' h' => forP_drop I h0 hs n (i + 1) s' (by omega) h'
theorem forP_ix {α σ : Type} {body : α → σ → (σ → Prop) → (σ → Prop) → Prop} {K : σ → Prop} (I : Nat → σ → Prop) {xs : List α} {s : σ} (h : I 0 s) (h0 : ∀ s, I xs.length s → K s)
    (hs : ∀ (i : Nat) x s, xs[i]? = some x → I i s → ∀ N : σ → Prop, (∀ s', I (i + 1) s' → N s') → body x s N K) : forP body K xs s :=
  forP_drop I h0 hs xs.length 0 s (by omega) h
theorem rgI_get {lo : Int} {n i : Nat} {x : Int} (h : (rgI lo n)[i]? = some x) : x = lo + i ∧ i < n := by
  unfold rgI at h
  rw [List.getElem?_map] at h
  by_cases hi : i < n
  · rw [List.getElem?_range hi] at h; simp at h; exact ⟨h.symm, hi⟩
  · rw [List.getElem?_eq_none_iff.mpr (by simpa using hi)] at h; simp at h
theorem rgI_at {lo : Int} {n i : Nat} (h : i < n) : (rgI lo n)[i]? = some (lo + i) := by
  unfold rgI; rw [List.getElem?_map, List.getElem?_range h]; rfl
theorem enI_get {α : Type} {xs : List α} {i : Nat} {p : Int × α} (h : (enI xs)[i]? = some p) : p.1 = i ∧ xs[i]? = some p.2 := by
  unfold enI at h
  rw [List.getElem?_map, List.getElem?_zipIdx] at h
  cases e : xs[i]? with
  | none => rw [e] at h; simp at h
  | some y => rw [e] at h; simp at h; subst h; simp
theorem mod_ne {h d n : Int} (h0 : 0 ≤ h) (h1 : h < n) (d0 : 1 ≤ d) (d1 : d < n) : 0 ≤ (h + d) % n ∧ (h + d) % n < n ∧ (h + d) % n ≠ h := by
  by_cases c : h + d < n
  · rw [Int.emod_eq_of_lt (by omega) c]; omega
  · have e : (h + d) % n = h + d - n := by
      rw [show h + d = (h + d - n) + n * 1 by omega, Int.add_mul_emod_self_left, Int.emod_eq_of_lt (by omega) (by omega)]; omega
    rw [e]; omega
theorem join_t {σ : Type} {c : Bool} {A B : (σ → Prop) → Prop} {k : σ → Prop} (hc : c = true) (h : A k) : joinP (fun K => if c = true then A K else B K) k := by
  show ite _ _ _
  rw [if_pos hc]; exact h
theorem join_f {σ : Type} {c : Bool} {A B : (σ → Prop) → Prop} {k : σ → Prop} (hc : c = false) (h : B k) : joinP (fun K => if c = true then A K else B K) k := by
  show ite _ _ _
  rw [if_neg (by rw [hc]; simp)]; exact h
def parts : List Slip → Int → List Int
  | [], _ => []
  | s :: r, p => min s.2 p :: parts r (p - min s.2 p)
def wholeD (v : D) (lo hi : Int) : Bool := match v with | .it i => decide (lo ≤ i) && decide (i ≤ hi) | _ => false
abbrev debtsL (b : List House) : List Int := b.map fun h => sumA h.2
def AmOk (ss : List Slip) : Prop := ∀ s ∈ ss, 1 ≤ s.2 ∧ s.2 ≤ 1000000000
theorem sumA_ge {ss : List Slip} (h : AmOk ss) : 0 ≤ sumA ss := (sumA_nonneg h).1
def slipsTo : List Slip → List Int → Int → Int
  | s :: ss, q :: qs, h => (if s.1 = h then q else 0) + slipsTo ss qs h
  | _, _, _ => 0
abbrev paidTo (ss : List Slip) (p : Int) (h : Int) : Int := slipsTo ss (parts ss p) h
def recvH : List House → List Int → Int → Int
  | x :: b, p :: ps, h => paidTo x.2 p h + recvH b ps h
  | _, _, _ => 0
theorem paidTo_cons (s : Slip) (r : List Slip) (p h : Int) : paidTo (s :: r) p h = (if s.1 = h then min s.2 p else 0) + paidTo r (p - min s.2 p) h := rfl
theorem paidTo_nonneg {ss : List Slip} (ha : AmOk ss) {p : Int} (hp : 0 ≤ p) (h : Int) : 0 ≤ paidTo ss p h := by
  induction ss generalizing p with
  | nil => simp [slipsTo]
  | cons s r ih =>
    have h1 := ha s (by simp)
    have := ih (fun x hx => ha x (List.mem_cons_of_mem _ hx)) (p := p - min s.2 p) (by omega)
    rw [paidTo_cons]; split <;> omega
theorem paidTo_mono {ss : List Slip} (ha : AmOk ss) {p q : Int} (hp : 0 ≤ p) (hq : p ≤ q) (h : Int) : paidTo ss p h ≤ paidTo ss q h := by
  induction ss generalizing p q with
  | nil => simp [slipsTo]
  | cons s r ih =>
    have h1 := ha s (by simp)
    have := ih (fun x hx => ha x (List.mem_cons_of_mem _ hx)) (p := p - min s.2 p) (q := q - min s.2 q) (by omega) (by omega)
    rw [paidTo_cons, paidTo_cons]; split <;> omega
abbrev sumN (n : Nat) (f : Int → Int) : Int := ((rgI 0 n).map f).sum
theorem sumN_succ (n : Nat) (f : Int → Int) : sumN (n + 1) f = sumN n f + f n := by
  unfold sumN rgI
  rw [List.range_succ]; simp
theorem sumN_zero (f : Int → Int) : sumN 0 f = 0 := rfl
theorem sumN_add (f g : Int → Int) : ∀ n, sumN n (fun h => f h + g h) = sumN n f + sumN n g
  | 0 => rfl
  | n + 1 => by rw [sumN_succ, sumN_succ, sumN_succ, sumN_add f g n]; omega
theorem sumN_const0 : ∀ n, sumN n (fun _ => 0) = 0
  | 0 => rfl
  | n + 1 => by rw [sumN_succ, sumN_const0 n]; rfl
theorem sumN_congr {f g : Int → Int} : ∀ {n : Nat}, (∀ h : Int, 0 ≤ h → h < n → f h = g h) → sumN n f = sumN n g
  | 0, _ => rfl
  | n + 1, k => by rw [sumN_succ, sumN_succ, sumN_congr fun h h0 h1 => k h h0 (by omega), k n (by omega) (by omega)]
theorem sumN_one (k v : Int) : ∀ (n : Nat), 0 ≤ k → k < n → sumN n (fun h => if k = h then v else 0) = v
  | 0, h0, h1 => by omega
  | n + 1, h0, h1 => by
    rw [sumN_succ]
    by_cases hk : k = n
    · rw [if_pos hk, sumN_congr (g := fun _ => 0) fun h _ hh => if_neg (by omega), sumN_const0]; omega
    · rw [if_neg hk, sumN_one k v n h0 (by omega)]; omega
theorem sumN_le {f g : Int → Int} : ∀ {n : Nat}, (∀ h : Int, 0 ≤ h → h < n → f h ≤ g h) → sumN n f ≤ sumN n g
  | 0, _ => by rw [sumN_zero, sumN_zero]; exact Int.le_refl _
  | n + 1, k => by
    rw [sumN_succ, sumN_succ]
    have := sumN_le (n := n) fun h h0 h1 => k h h0 (by omega)
    have := k n (by omega) (by omega)
    omega
def nextS : List Slip → Int → Option Slip
  | [], _ => none
  | s :: r, p => if p < s.2 then some (s.1, s.2 - p) else nextS r (p - s.2)
def cntU : List Slip → Int → Nat
  | [], _ => 0
  | s :: r, p => if p < s.2 then r.length + 1 else cntU r (p - s.2)
theorem AmOk.tail {s : Slip} {r : List Slip} (h : AmOk (s :: r)) : AmOk r := fun x hx => h x (List.mem_cons_of_mem _ hx)
theorem nextS_some : ∀ {ss : List Slip} {p : Int} {x : Slip}, AmOk ss → 0 ≤ p → nextS ss p = some x → 1 ≤ x.2 ∧ x.2 ≤ 1000000000 ∧ p + x.2 ≤ sumA ss ∧ ∃ s ∈ ss, s.1 = x.1
  | [], _, _, _, _, h => by simp [nextS] at h
  | s :: r, p, x, ha, hp, h => by
    have h1 := ha s (by simp)
    have hs := sumA_ge ha.tail
    simp only [nextS] at h
    rw [sumA_cons]
    split at h
    · cases h; exact ⟨by simp; omega, by simp; omega, by simp; omega, s, by simp, rfl⟩
    · obtain ⟨a, b, c, z, hz, e⟩ := nextS_some ha.tail (by omega) h
      exact ⟨a, b, by omega, z, List.mem_cons_of_mem _ hz, e⟩
theorem nextS_add : ∀ {ss : List Slip} {p a : Int} {x : Slip}, nextS ss p = some x → 0 ≤ a → a < x.2 → nextS ss (p + a) = some (x.1, x.2 - a)
  | [], _, _, _, h, _, _ => by simp [nextS] at h
  | s :: r, p, a, x, h, h0, h1 => by
    simp only [nextS] at h ⊢
    split at h
    · cases h; simp only at h1; rw [if_pos (by omega)]; congr 2; omega
    · next hc =>
      rw [if_neg (by omega), show p + a - s.2 = p - s.2 + a by omega]
      exact nextS_add h h0 h1
theorem cntU_le : ∀ (ss : List Slip) (p : Int), cntU ss p ≤ ss.length
  | [], _ => by simp [cntU]
  | s :: r, p => by
    simp only [cntU, List.length_cons]
    split
    · omega
    · have := cntU_le r (p - s.2); omega
theorem cntU_mono : ∀ (ss : List Slip) {p q : Int}, p ≤ q → cntU ss q ≤ cntU ss p
  | [], _, _, _ => by simp [cntU]
  | s :: r, p, q, h => by
    simp only [cntU]
    split
    · rw [if_pos (by omega)]; exact Nat.le_refl _
    · split
      · have := cntU_le r (q - s.2); omega
      · exact cntU_mono r (by omega)
theorem cntU_full : ∀ {ss : List Slip} {p : Int} {x : Slip}, nextS ss p = some x → cntU ss (p + x.2) + 1 ≤ cntU ss p
  | [], _, _, h => by simp [nextS] at h
  | s :: r, p, x, h => by
    simp only [nextS] at h
    simp only [cntU]
    split at h
    · next hc =>
      cases h
      simp only
      rw [if_pos hc, if_neg (by omega)]
      have := cntU_le r (p + (s.2 - p) - s.2); omega
    · next hc =>
      rw [if_neg hc]
      by_cases h0 : p + x.2 < s.2
      · exfalso
        have : ∀ {ss : List Slip} {p : Int} {x : Slip}, nextS ss p = some x → 0 < x.2 := by
          intro ss
          induction ss with
          | nil => intro p x h; simp [nextS] at h
          | cons s r ih =>
            intro p x h
            simp only [nextS] at h
            split at h
            · cases h; simp; omega
            · exact ih h
        have := this h
        omega
      · rw [if_neg h0, show p + x.2 - s.2 = p - s.2 + x.2 by omega]
        exact cntU_full h
theorem paidTo_stepS {ss : List Slip} {p a : Int} {x : Slip} (ha : AmOk ss) (hp : 0 ≤ p) (h : nextS ss p = some x) (h0 : 0 ≤ a) (h1 : a ≤ x.2) (k : Int) : paidTo ss (p + a) k = paidTo ss p k + (if x.1 = k then a else 0) := by
  induction ss generalizing p with
  | nil => simp [nextS] at h
  | cons s r ih =>
    have hs := ha s (by simp)
    simp only [nextS] at h
    rw [paidTo_cons, paidTo_cons]
    split at h
    · next hc =>
      cases h
      simp only at h1
      rw [show min s.2 (p + a) = p + a by omega, show min s.2 p = p by omega, Int.sub_self, Int.sub_self]
      simp only
      split <;> omega
    · next hc =>
      rw [show min s.2 (p + a) = s.2 by omega, show min s.2 p = s.2 by omega, show p + a - s.2 = p - s.2 + a by omega, ih ha.tail (by omega) h]
      omega
def gp (ps : List Int) (i : Int) : Int := ps.getD i.toNat 0
def gh (b : List House) (i : Int) : House := b.getD i.toNat (0, [])
def headH (b : List House) (ps : List Int) (i : Int) : Option Slip := nextS (gh b i).2 (gp ps i)
def nx (b : List House) (ps : List Int) (i : Int) : Option Int := (headH b ps i).map (·.1)
def heldI (b : List House) (ps : List Int) (i : Int) : Int := (gh b i).1 + recvH b ps i - gp ps i
theorem gp_nat {ps : List Int} {k : Nat} (h : k < ps.length) : gp ps (k : Int) = ps[k] := by unfold gp; simp [h]
theorem gh_nat {b : List House} {k : Nat} (h : k < b.length) : gh b (k : Int) = b[k] := by unfold gh; simp [h]
structure GoodB (b : List House) : Prop extends OkBook b where
  ns : ∀ i : Int, 0 ≤ i → ∀ s ∈ (gh b i).2, s.1 ≠ i
theorem GoodB.gpile {b : List House} (hb : GoodB b) {i : Int} (h0 : 0 ≤ i) (h1 : i < b.length) : gh b i ∈ b := by
  obtain ⟨k, rfl⟩ : ∃ k : Nat, i = (k : Int) := ⟨i.toNat, by omega⟩
  rw [gh_nat (by omega)]; exact List.getElem_mem _
theorem GoodB.am {b : List House} (hb : GoodB b) (i : Int) : AmOk (gh b i).2 := by
  by_cases h : i.toNat < b.length
  · have : gh b i ∈ b := by unfold gh; simp [h]
    exact (hb.pile _ this).am
  · unfold gh; simp [List.getD, List.getElem?_eq_none_iff.mpr (Nat.le_of_not_lt h)]
    intro s hs; cases hs
theorem GoodB.to_ {b : List House} (hb : GoodB b) (i : Int) : ∀ s ∈ (gh b i).2, 0 ≤ s.1 ∧ s.1 < b.length := by
  by_cases h : i.toNat < b.length
  · have : gh b i ∈ b := by unfold gh; simp [h]
    exact (hb.pile _ this).to
  · unfold gh; simp [List.getD, List.getElem?_eq_none_iff.mpr (Nat.le_of_not_lt h)]
structure PayI (b : List House) (ps : List Int) : Prop where
  len : ps.length = b.length
  ge : ∀ i : Int, 0 ≤ i → i < b.length → 0 ≤ gp ps i ∧ gp ps i ≤ sumA (gh b i).2
theorem PayI.ge0 {b : List House} {ps : List Int} (h : PayI b ps) {i : Int} (h0 : 0 ≤ i) : 0 ≤ gp ps i := by
  by_cases h1 : i < b.length
  · exact (h.ge i h0 h1).1
  · unfold gp
    rw [List.getD_eq_getElem?_getD, List.getElem?_eq_none_iff.mpr (by rw [h.len]; omega)]; exact Int.le_refl _
open Classical
def itr (f : Int → Option Int) : Nat → Int → Option Int
  | 0, i => some i
  | k + 1, i => (f i).bind (itr f k)
def reach (f : Int → Option Int) (i j : Int) : Prop := ∃ k, itr f k i = some j
def onRing (f : Int → Option Int) (i : Int) : Prop := ∃ k, itr f (k + 1) i = some i
theorem itr_add (f : Int → Option Int) : ∀ (a c : Nat) (i : Int), itr f (a + c) i = (itr f a i).bind (itr f c)
  | 0, c, i => by simp [itr]
  | a + 1, c, i => by
    rw [show a + 1 + c = a + c + 1 by omega]
    simp only [itr]
    cases f i with
    | none => rfl
    | some j => simp [itr_add f a c j]
noncomputable def b01 (P : Prop) : Int := if P then 1 else 0
theorem sumN_nonneg {f : Int → Int} {n : Nat} (h : ∀ k : Int, 0 ≤ k → k < n → 0 ≤ f k) : 0 ≤ sumN n f := by
  have := sumN_le (f := fun _ => 0) (g := f) (n := n) h
  rwa [sumN_const0] at this
theorem sumN_const (c : Int) : ∀ n, sumN n (fun _ => c) = n * c
  | 0 => by simp [sumN_zero]
  | n + 1 => by rw [sumN_succ, sumN_const c n, Int.natCast_add, Int.add_mul]; omega
theorem sumN_lt {f g : Int → Int} {n : Nat} {i : Int} (h0 : 0 ≤ i) (h1 : i < n) (h : ∀ k : Int, 0 ≤ k → k < n → f k ≤ g k) (hi : f i < g i) : sumN n f < sumN n g := by
  have a := sumN_le (n := n) (f := fun k => f k + (if i = k then g i - f i else 0)) (g := g) fun k k0 k1 => by
    have := h k k0 k1
    split
    · next e => subst e; omega
    · omega
  rw [sumN_add, sumN_one _ _ _ h0 h1] at a
  omega
noncomputable def size (f : Int → Option Int) (n : Nat) (i : Int) : Int := sumN n fun j => b01 (reach f i j)
theorem sumN_left (f : Int → Int) : ∀ n, sumN (n + 1) f = f 0 + sumN n fun i => f (i + 1)
  | 0 => by rw [sumN_succ, sumN_zero, sumN_zero]; simp
  | n + 1 => by
    rw [sumN_succ, sumN_left f n, sumN_succ]
    have : ((n + 1 : Nat) : Int) = (n : Int) + 1 := by omega
    rw [this]; omega
theorem recvH_eq : ∀ {b : List House} {ps : List Int} (h : Int), ps.length = b.length → recvH b ps h = sumN b.length fun i => paidTo (gh b i).2 (gp ps i) h
  | [], [], h, _ => rfl
  | x :: b, p :: ps, h, hl => by
    rw [List.length_cons, sumN_left]
    simp only [recvH]
    rw [recvH_eq (b := b) (ps := ps) h (by simpa using hl)]
    congr 1
    refine sumN_congr fun i i0 i1 => ?_
    unfold gh gp
    rw [show (i + 1).toNat = i.toNat + 1 by omega, List.getD_cons_succ, List.getD_cons_succ]
  | [], _ :: _, _, hl => by simp at hl
  | _ :: _, [], _, hl => by simp at hl
def unp (b : List House) (ps : List Int) : Int := sumN b.length fun i => (cntU (gh b i).2 (gp ps i) : Int)
end Dl
namespace Dl
open PySem PySem.Spec PyProof.Rows L2
open Classical
def moreL (ps : List Int) (hs : List Int) (a : Int) : List Int := (enI ps).map fun p => p.2 + a * (if p.1 ∈ hs then 1 else 0)
theorem moreL_length (ps hs : List Int) (a : Int) : (moreL ps hs a).length = ps.length := by unfold moreL; rw [List.length_map, enI_length]
theorem moreL_gp {ps hs : List Int} {a k : Int} (h0 : 0 ≤ k) (h1 : k < ps.length) : gp (moreL ps hs a) k = gp ps k + (if k ∈ hs then a else 0) := by
  obtain ⟨j, rfl⟩ : ∃ j : Nat, k = (j : Int) := ⟨k.toNat, by omega⟩
  have hj : j < ps.length := by omega
  rw [gp_nat hj, gp_nat (by rw [moreL_length]; exact hj)]
  have : (moreL ps hs a)[j]? = some (ps[j] + a * (if (j : Int) ∈ hs then 1 else 0)) := by
    unfold moreL enI
    rw [List.getElem?_map, List.getElem?_map, List.getElem?_zipIdx, List.getElem?_eq_getElem hj]; simp
  rw [List.getElem?_eq_getElem (by rw [moreL_length]; exact hj)] at this
  rw [Option.some.inj this]
  split <;> omega
structure Paid (b : List House) (ps qs : List Int) (w : Int → Prop) (a : Int) : Prop where
  len : qs.length = ps.length
  gp : ∀ k : Int, 0 ≤ k → k < b.length → gp qs k = gp ps k + (if w k then a else 0)
theorem paid_more {b : List House} {ps : List Int} (hp : PayI b ps) (hs : List Int) (a : Int) : Paid b ps (moreL ps hs a) (fun k => k ∈ hs) a :=
  ⟨moreL_length _ _ _, fun k h0 h1 => by rw [moreL_gp h0 (by rw [hp.len]; exact h1)]; by_cases h : k ∈ hs <;> simp [h]⟩
section
variable {b : List House} {ps qs : List Int} {w : Int → Prop} {a : Int}
def CanPay (b : List House) (ps : List Int) (w : Int → Prop) (a : Int) : Prop := ∀ k : Int, w k → (0 ≤ k ∧ k < b.length) ∧ ∃ x, headH b ps k = some x ∧ a ≤ x.2
theorem Paid.payI (hb : GoodB b) (hp : PayI b ps) (P : Paid b ps qs w a) (h0 : 0 ≤ a) (hc : CanPay b ps w a) : PayI b qs := by
  refine ⟨P.len.trans hp.len, fun k k0 k1 => ?_⟩
  rw [P.gp k k0 k1]
  have := hp.ge k k0 k1
  split
  · next hw =>
    obtain ⟨_, x, hx, hax⟩ := hc k hw
    have := nextS_some (hb.am k) this.1 hx
    omega
  · omega
theorem Paid.unp (P : Paid b ps qs w a) (h0 : 0 ≤ a) : Dl.unp b qs ≤ Dl.unp b ps := by
  refine sumN_le fun k k0 k1 => ?_
  rw [P.gp k k0 k1]
  have := cntU_mono (gh b k).2 (p := Dl.gp ps k) (q := Dl.gp ps k + (if w k then a else 0)) (by split <;> omega)
  omega
theorem Paid.unp_full (P : Paid b ps qs w a) (h0 : 0 ≤ a) {i : Int} {x : Slip} (i0 : 0 ≤ i) (i1 : i < b.length) (hw : w i) (hx : headH b ps i = some x) (hax : a = x.2) : Dl.unp b qs + 1 ≤ Dl.unp b ps := by
  have : Dl.unp b qs < Dl.unp b ps := by
    refine sumN_lt i0 i1 (fun k k0 k1 => ?_) ?_
    · rw [P.gp k k0 k1]
      have := cntU_mono (gh b k).2 (p := Dl.gp ps k) (q := Dl.gp ps k + (if w k then a else 0)) (by split <;> omega)
      omega
    · rw [P.gp i i0 i1, if_pos hw, hax]
      have := cntU_full hx
      omega
  omega
theorem Paid.recv (hb : GoodB b) (hp : PayI b ps) (P : Paid b ps qs w a) (h0 : 0 ≤ a) (hc : CanPay b ps w a) (h : Int) : recvH b qs h = recvH b ps h + sumN b.length fun k => if w k ∧ nx b ps k = some h then a else 0 := by
  rw [recvH_eq h (P.len.trans hp.len), recvH_eq h hp.len, ← sumN_add]
  refine sumN_congr fun k k0 k1 => ?_
  rw [P.gp k k0 k1]
  by_cases hw : w k
  · obtain ⟨_, x, hx, hax⟩ := hc k hw
    rw [if_pos hw, paidTo_stepS (hb.am k) (hp.ge k k0 k1).1 hx h0 hax]
    have e : nx b ps k = some x.1 := by unfold nx; rw [hx]; rfl
    rw [e]
    by_cases hxh : x.1 = h
    · rw [if_pos hxh, if_pos ⟨hw, by rw [hxh]⟩]
    · rw [if_neg hxh, if_neg (fun z => hxh (Option.some.inj z.2))]
  · rw [if_neg hw, if_neg (fun z => hw z.1), Int.add_zero]; omega
theorem pay_recv {i : Int} (hb : GoodB b) (hp : PayI b ps) (P : Paid b ps qs (fun k => k = i) a) (i0 : 0 ≤ i) (i1 : i < b.length) {x : Slip} (hx : headH b ps i = some x) (h0 : 0 ≤ a) (hax : a ≤ x.2) (h : Int) :
    recvH b qs h = recvH b ps h + (if x.1 = h then a else 0) := by
  rw [P.recv hb hp h0 (fun k e => by subst e; exact ⟨⟨i0, i1⟩, x, hx, hax⟩) h]
  congr 1
  have e : nx b ps i = some x.1 := by unfold nx; rw [hx]; rfl
  rw [sumN_congr (g := fun k => if i = k then (if x.1 = h then a else 0) else 0) fun k _ _ => ?_, sumN_one _ _ _ i0 i1]
  by_cases hk : k = i
  · subst hk
    rw [if_pos rfl, e]
    by_cases hxh : x.1 = h
    · rw [if_pos hxh, if_pos ⟨rfl, by rw [hxh]⟩]
    · rw [if_neg hxh, if_neg (fun z => hxh (Option.some.inj z.2))]
  · rw [if_neg (show ¬ i = k from fun z => hk z.symm), if_neg (fun z => hk z.1)]
theorem head_to (hb : GoodB b) (hp : PayI b ps) {i : Int} (i0 : 0 ≤ i) {x : Slip} (hx : headH b ps i = some x) : 0 ≤ x.1 ∧ x.1 < b.length ∧ x.1 ≠ i ∧ 1 ≤ x.2 ∧ x.2 ≤ 1000000000 := by
  obtain ⟨h1, h1', _, s, hs, e⟩ := nextS_some (hb.am i) (hp.ge0 i0) hx
  have := hb.to_ i s hs
  have := hb.ns i i0 s hs
  rw [← e]
  exact ⟨by omega, by omega, this, h1, h1'⟩
end
end Dl
namespace Dl
open PySem PySem.Spec PyProof.Rows L2
def ringGo (f : Int → Option Int) (i : Int) : Nat → List Int → Option (List Int)
  | 0, _ => none
  | k + 1, way => match way.getLast?.bind f with
    | none => none
    | some j => if j = i then some way else ringGo f i k (way ++ [j])
def minOf : List Int → Int
  | [] => 0
  | x :: r => r.foldl min x
theorem foldl_min_le : ∀ (r : List Int) (x : Int), r.foldl min x ≤ x ∧ ∀ y ∈ r, r.foldl min x ≤ y
  | [], x => ⟨Int.le_refl _, by simp⟩
  | a :: r, x => by
    obtain ⟨h1, h2⟩ := foldl_min_le r (min x a)
    refine ⟨by simp only [List.foldl_cons]; omega, fun y hy => ?_⟩
    simp only [List.foldl_cons]
    rcases List.mem_cons.mp hy with rfl | hy
    · omega
    · exact h2 y hy
theorem foldl_min_mem : ∀ (r : List Int) (x : Int), r.foldl min x = x ∨ r.foldl min x ∈ r
  | [], x => .inl rfl
  | a :: r, x => by
    simp only [List.foldl_cons]
    rcases foldl_min_mem r (min x a) with h | h
    · by_cases hx : x ≤ a
      · left; rw [h]; omega
      · right; rw [h, show min x a = a by omega]; simp
    · right; exact List.mem_cons_of_mem _ h
theorem minOf_mem {w : List Int} (h : w ≠ []) : minOf w ∈ w := by
  cases w with
  | nil => exact (h rfl).elim
  | cons x r => rcases foldl_min_mem r x with e | e <;> simp [minOf, e]
theorem minOf_le {w : List Int} : ∀ y ∈ w, minOf w ≤ y := by
  cases w with
  | nil => simp
  | cons x r =>
    intro y hy
    have := foldl_min_le r x
    rcases List.mem_cons.mp hy with rfl | hy
    · exact this.1
    · exact this.2 y hy
theorem minOf_eq {w : List Int} {m : Int} (h1 : m ∈ w) (h2 : ∀ y ∈ w, m ≤ y) : m = minOf w := by
  have a := minOf_le m h1
  have c := h2 _ (minOf_mem (fun z => by rw [z] at h1; cases h1))
  omega
def rotMin (w : List Int) : List Int := w.drop (w.idxOf (minOf w)) ++ w.take (w.idxOf (minOf w))
theorem rotMin_mem {w : List Int} {x : Int} : x ∈ rotMin w ↔ x ∈ w := by
  unfold rotMin
  rw [List.mem_append, Or.comm, ← List.mem_append, List.take_append_drop]
theorem rotMin_length (w : List Int) : (rotMin w).length = w.length := by
  unfold rotMin; rw [List.length_append, List.length_drop, List.length_take]; omega
def ringL (f : Int → Option Int) (n : Nat) (i : Int) : Option (List Int) := (ringGo f i n [i]).map rotMin
structure Along (f : Int → Option Int) (i : Int) (way : List Int) : Prop where
  ne : way ≠ []
  at_ : ∀ t : Nat, t < way.length → itr f t i = way[t]?
theorem itr_succ (f : Int → Option Int) (k : Nat) (i : Int) : itr f (k + 1) i = (itr f k i).bind f := by
  rw [itr_add f k 1 i]
  congr 1
  funext j
  simp only [itr]
  cases f j <;> rfl
theorem along_one (f : Int → Option Int) (i : Int) : Along f i [i] := ⟨by simp, fun t ht => by
  have : t = 0 := by simp at ht; omega
  subst this; rfl⟩
theorem Along.last {f : Int → Option Int} {i : Int} {way : List Int} (h : Along f i way) : itr f way.length i = way.getLast?.bind f := by
  have hl : 0 < way.length := List.length_pos_iff.mpr h.ne
  have e : way.length = way.length - 1 + 1 := by omega
  rw [e, itr_succ, h.at_ _ (by omega), ← List.getLast?_eq_getElem?]
theorem Along.snoc {f : Int → Option Int} {i j : Int} {way : List Int} (h : Along f i way) (hj : way.getLast?.bind f = some j) : Along f i (way ++ [j]) := ⟨by simp, fun t ht => by
  by_cases hlt : t < way.length
  · rw [List.getElem?_append_left hlt]; exact h.at_ t hlt
  · have e : t = way.length := by simp at ht; omega
    subst e
    rw [h.last, hj]; simp⟩
theorem ringGo_some {f : Int → Option Int} {i : Int} : ∀ {k : Nat} {way w : List Int}, Along f i way → ringGo f i k way = some w → Along f i w ∧ w.getLast?.bind f = some i
  | 0, _, _, _, h => by simp [ringGo] at h
  | k + 1, way, w, ha, h => by
    simp only [ringGo] at h
    split at h
    · cases h
    · next j hj =>
      split at h
      · next hij => cases h; subst hij; exact ⟨ha, hj⟩
      · exact ringGo_some (ha.snoc hj) h
theorem itr_none {f : Int → Option Int} {i : Int} {k : Nat} (h : itr f k i = none) (m : Nat) : itr f (k + m) i = none := by rw [itr_add, h]; rfl
theorem itr_period {f : Int → Option Int} {i : Int} {m : Nat} (h : itr f m i = some i) : ∀ q, itr f (q * m) i = some i
  | 0 => by simp [itr]
  | q + 1 => by rw [Nat.succ_mul, itr_add, itr_period h q]; exact h
theorem ringGo_none {f : Int → Option Int} {i : Int} : ∀ {k : Nat} {way : List Int}, Along f i way → (∀ t, 1 ≤ t → t < way.length → itr f t i ≠ some i) → ringGo f i k way = none → (∃ t, itr f t i = none) ∨ ∀ t, 1 ≤ t → t < way.length + k → itr f t i ≠ some i
  | 0, way, ha, hn, h => .inr fun t h1 h2 => hn t h1 (by omega)
  | k + 1, way, ha, hn, h => by
    simp only [ringGo] at h
    split at h
    · next e => exact .inl ⟨way.length, by rw [ha.last, e]⟩
    · next j hj =>
      split at h
      · cases h
      · next hij =>
        rcases ringGo_none (ha.snoc hj) (fun t h1 h2 => by
          by_cases hlt : t < way.length
          · exact hn t h1 hlt
          · have e : t = way.length := by simp at h2; omega
            subst e
            rw [ha.last, hj]; exact fun z => hij (Option.some.inj z)) h with q | q
        · exact .inl q
        · exact .inr fun t h1 h2 => q t h1 (by simp; omega)
theorem nodup_le {n : Nat} : ∀ {xs : List Int}, xs.Nodup → (∀ x ∈ xs, 0 ≤ x ∧ x < n) → xs.length ≤ n := by
  intro xs hd hr
  have key : ∀ {xs : List Int}, xs.Nodup → (∀ x ∈ xs, 0 ≤ x ∧ x < n) → sumN n (fun h => if h ∈ xs then 1 else 0) = xs.length := by
    intro xs
    induction xs with
    | nil => intro _ _; simp; exact sumN_const0 n
    | cons x r ih =>
      intro hd hr
      have hd' := List.nodup_cons.mp hd
      have h0 := hr x (by simp)
      have e : sumN n (fun h => if h ∈ x :: r then 1 else 0) = sumN n (fun h => (if x = h then 1 else 0) + (if h ∈ r then 1 else 0)) := sumN_congr fun h _ _ => by
        by_cases hx : x = h
        · subst hx; simp [hd'.1]
        · have : ¬ h = x := fun z => hx z.symm
          simp [this, hx]
      rw [e, sumN_add, sumN_one _ _ _ h0.1 h0.2, ih hd'.2 fun y hy => hr y (List.mem_cons_of_mem _ hy), List.length_cons]
      omega
  have a := key hd hr
  have c := sumN_le (n := n) (f := fun h => if h ∈ xs then 1 else 0) (g := fun _ => 1) fun h _ _ => by split <;> omega
  rw [sumN_const, a] at c
  omega
theorem least_nat {P : Nat → Prop} (h : ∃ n, P n) : ∃ n, P n ∧ ∀ m, m < n → ¬ P m := by
  obtain ⟨n, hn⟩ := h
  induction n using Nat.strongRecOn with
  | ind n ih =>
    by_cases hm : ∃ m, m < n ∧ P m
    · obtain ⟨m, h1, h2⟩ := hm; exact ih m h1 h2
    · exact ⟨n, hn, fun m h1 h2 => hm ⟨m, h1, h2⟩⟩
theorem ring_period {f : Int → Option Int} {n : Nat} (hf : ∀ i j : Int, 0 ≤ i → i < n → f i = some j → 0 ≤ j ∧ j < n) {i : Int} (i0 : 0 ≤ i) (i1 : i < n) (h : onRing f i) : ∃ t, 1 ≤ t ∧ t ≤ n ∧ itr f t i = some i := by
  obtain ⟨k, hk⟩ := h
  obtain ⟨m, ⟨hm1, hm⟩, hmin⟩ := least_nat (P := fun t => 1 ≤ t ∧ itr f t i = some i) ⟨k + 1, by omega, hk⟩
  refine ⟨m, hm1, ?_, hm⟩
  have dfd : ∀ t, t ≤ m → ∃ x, itr f t i = some x := fun t ht => by
    cases e : itr f t i with
    | some x => exact ⟨x, rfl⟩
    | none =>
      have := itr_none e (m - t)
      rw [show t + (m - t) = m by omega, hm] at this; cases this
  have rng : ∀ t, ∀ x, itr f t i = some x → 0 ≤ x ∧ x < n := by
    intro t
    induction t with
    | zero => intro x hx; cases hx; exact ⟨i0, i1⟩
    | succ t ih =>
      intro x hx
      rw [itr_succ] at hx
      cases e : itr f t i with
      | none => rw [e] at hx; cases hx
      | some y => rw [e] at hx; exact hf y x (ih y e).1 (ih y e).2 hx
  let xs := (List.range m).map fun t => (itr f t i).getD 0
  have hnd : xs.Nodup := by
    refine List.nodup_iff_pairwise_ne.mpr ?_
    refine List.pairwise_map.mpr (List.Pairwise.imp_of_mem ?_ List.pairwise_lt_range)
    intro a c ha hc hac e
    rw [List.mem_range] at ha hc
    obtain ⟨x, hx⟩ := dfd a (by omega)
    obtain ⟨y, hy⟩ := dfd c (by omega)
    rw [hx, hy] at e
    simp at e
    subst e
    have h1 : itr f (c + (m - c)) i = some i := by rw [show c + (m - c) = m by omega]; exact hm
    rw [itr_add, hy] at h1
    have h2 : itr f (a + (m - c)) i = some i := by rw [itr_add, hx]; exact h1
    exact hmin (a + (m - c)) (by omega) ⟨by omega, h2⟩
  have := nodup_le hnd (n := n) fun x hx => by
    obtain ⟨t, ht, rfl⟩ := List.mem_map.mp hx
    rw [List.mem_range] at ht
    obtain ⟨y, hy⟩ := dfd t (by omega)
    rw [hy]; exact rng t y hy
  simpa [xs] using this
theorem ringL_none {f : Int → Option Int} {n : Nat} (hf : ∀ i j : Int, 0 ≤ i → i < n → f i = some j → 0 ≤ j ∧ j < n) {i : Int} (i0 : 0 ≤ i) (i1 : i < n) (h : ringL f n i = none) : ¬ onRing f i := fun hr => by
  have h' : ringGo f i n [i] = none := by
    unfold ringL at h
    cases e : ringGo f i n [i] with
    | none => rfl
    | some w => rw [e] at h; cases h
  obtain ⟨t, t1, t2, ht⟩ := ring_period hf i0 i1 hr
  rcases ringGo_none (along_one f i) (fun t h1 h2 => by simp at h2; omega) h' with ⟨k, hk⟩ | q
  · have := itr_none hk (k * t - k)
    have hge : k ≤ k * t := Nat.le_mul_of_pos_right k (by omega)
    rw [show k + (k * t - k) = k * t by omega, itr_period ht k] at this
    cases this
  · exact q t t1 (by simp; omega) ht
theorem ringL_some {f : Int → Option Int} {n : Nat} {i : Int} {w : List Int} (h : ringL f n i = some w) : i ∈ w ∧ (∀ x ∈ w, (f x).isSome = true) ∧ ∃ v, Along f i v ∧ v.getLast?.bind f = some i ∧ w = rotMin v := by
  unfold ringL at h
  cases e : ringGo f i n [i] with
  | none => rw [e] at h; cases h
  | some v =>
    rw [e] at h
    cases h
    obtain ⟨ha, hl⟩ := ringGo_some (along_one f i) e
    have hpos : 0 < v.length := List.length_pos_iff.mpr ha.ne
    refine ⟨rotMin_mem.mpr ?_, fun x hx => ?_, v, ha, hl, rfl⟩
    · have := ha.at_ 0 hpos
      exact List.mem_of_getElem? this.symm
    · rw [rotMin_mem] at hx
      obtain ⟨t, ht⟩ := List.getElem?_of_mem hx
      have htl := (List.getElem?_eq_some_iff.mp ht).1
      have h1 := ha.at_ t htl
      rw [ht] at h1
      have h2 := itr_succ f t i
      rw [h1] at h2
      simp only [Option.bind_some] at h2
      by_cases hlast : t + 1 < v.length
      · rw [← h2, ha.at_ _ hlast, List.getElem?_eq_getElem hlast]; rfl
      · have e2 : t + 1 = v.length := by omega
        rw [e2, ha.last, hl] at h2
        rw [← h2]; rfl
structure IsRing (f : Int → Option Int) (w : List Int) : Prop where
  ne : w ≠ []
  nd : w.Nodup
  go : ∀ t : Nat, t < w.length → ∃ x, w[t]? = some x ∧ f x = w[(t + 1) % w.length]?
theorem nd_inj {w : List Int} (h : w.Nodup) {s t : Nat} (hs : s < w.length) (ht : t < w.length) (e : w[s] = w[t]) : s = t := by
  have hp := List.pairwise_iff_getElem.mp (List.nodup_iff_pairwise_ne.mp h)
  rcases Nat.lt_trichotomy s t with c | c | c
  · exact (hp s t hs ht c e).elim
  · exact c
  · exact (hp t s ht hs c e.symm).elim
section
variable {f : Int → Option Int} {w v : List Int} {i : Int}
theorem IsRing.pos (h : IsRing f w) : 0 < w.length := List.length_pos_iff.mpr h.ne
theorem IsRing.succ (h : IsRing f w) {x : Int} (hx : x ∈ w) : ∃ y ∈ w, f x = some y := by
  obtain ⟨t, ht, e⟩ := List.getElem_of_mem hx
  obtain ⟨z, hz, k⟩ := h.go t ht
  rw [List.getElem?_eq_getElem ht, e] at hz; cases hz
  have hm : (t + 1) % w.length < w.length := Nat.mod_lt _ h.pos
  rw [List.getElem?_eq_getElem hm] at k
  exact ⟨_, List.getElem_mem hm, k⟩
theorem IsRing.pred (h : IsRing f w) {y : Int} (hy : y ∈ w) : ∃ x ∈ w, f x = some y := by
  obtain ⟨t, ht, e⟩ := List.getElem_of_mem hy
  have hp := h.pos
  have hs : (t + w.length - 1) % w.length < w.length := Nat.mod_lt _ hp
  obtain ⟨x, hx, k⟩ := h.go _ hs
  refine ⟨x, List.mem_of_getElem? hx, ?_⟩
  rw [k, Nat.mod_add_mod, show t + w.length - 1 + 1 = t + w.length by omega, Nat.add_mod_right, Nat.mod_eq_of_lt ht, List.getElem?_eq_getElem ht, e]
theorem IsRing.inj (h : IsRing f w) {x x' y : Int} (hx : x ∈ w) (hx' : x' ∈ w) (e : f x = some y) (e' : f x' = some y) : x = x' := by
  obtain ⟨t, ht, q⟩ := List.getElem_of_mem hx
  obtain ⟨s, hs, q'⟩ := List.getElem_of_mem hx'
  obtain ⟨z, hz, k⟩ := h.go t ht
  obtain ⟨z', hz', k'⟩ := h.go s hs
  rw [List.getElem?_eq_getElem ht, q] at hz; cases hz
  rw [List.getElem?_eq_getElem hs, q'] at hz'; cases hz'
  rw [e] at k; rw [e'] at k'
  have hp := h.pos
  have ht1 : (t + 1) % w.length < w.length := Nat.mod_lt _ hp
  have hs1 : (s + 1) % w.length < w.length := Nat.mod_lt _ hp
  have em : (t + 1) % w.length = (s + 1) % w.length := by
    rw [List.getElem?_eq_getElem ht1] at k
    rw [List.getElem?_eq_getElem hs1] at k'
    have e1 : w[(t + 1) % w.length] = w[(s + 1) % w.length] := by rw [← Option.some.inj k, ← Option.some.inj k']
    exact nd_inj h.nd _ _ e1
  have e2 : t = s := by
    by_cases a : t + 1 < w.length
    · by_cases c : s + 1 < w.length
      · rw [Nat.mod_eq_of_lt a, Nat.mod_eq_of_lt c] at em; omega
      · rw [show s + 1 = w.length by omega, Nat.mod_self, Nat.mod_eq_of_lt a] at em; omega
    · by_cases c : s + 1 < w.length
      · rw [show t + 1 = w.length by omega, Nat.mod_self, Nat.mod_eq_of_lt c] at em; omega
      · omega
  subst e2
  rw [← q, ← q']
theorem IsRing.itr_ (h : IsRing f w) {t : Nat} (ht : t < w.length) : ∀ k, itr f k w[t] = w[(t + k) % w.length]?
  | 0 => by rw [Nat.add_zero, Nat.mod_eq_of_lt ht, List.getElem?_eq_getElem ht]; rfl
  | k + 1 => by
    obtain ⟨z, hz, q⟩ := h.go ((t + k) % w.length) (Nat.mod_lt _ h.pos)
    rw [itr_succ, h.itr_ ht k, hz, Option.bind_some, q, Nat.mod_add_mod, Nat.add_assoc]
theorem IsRing.reach_iff (h : IsRing f w) {x y : Int} (hx : x ∈ w) : y ∈ w ↔ reach f x y := by
  obtain ⟨t, ht, rfl⟩ := List.getElem_of_mem hx
  have hp := h.pos
  constructor
  · intro hy
    obtain ⟨s, hs, rfl⟩ := List.getElem_of_mem hy
    refine ⟨s + w.length - t, ?_⟩
    rw [h.itr_ ht, show t + (s + w.length - t) = s + w.length by omega, Nat.add_mod_right, Nat.mod_eq_of_lt hs, List.getElem?_eq_getElem hs]
  · rintro ⟨k, hk⟩
    rw [h.itr_ ht] at hk
    exact List.mem_of_getElem? hk
theorem IsRing.back (h : IsRing f w) {P : Int → Prop} (hP : ∀ x y, x ∈ w → y ∈ w → f x = some y → P y → P x) {y : Int} (hy : y ∈ w) (py : P y) : ∀ x ∈ w, P x := by
  have key : ∀ (k : Nat) x, x ∈ w → itr f k x = some y → P x := by
    intro k
    induction k with
    | zero => intro x _ e; cases e; exact py
    | succ k ih =>
      intro x hx e
      obtain ⟨z, hz, fz⟩ := h.succ hx
      simp only [itr, fz, Option.bind_some] at e
      exact hP x z hx hz fz (ih z hz e)
  intro x hx
  obtain ⟨k, hk⟩ := (h.reach_iff hx).mp hy
  exact key k x hx hk
theorem rot_get (w : List Int) {k : Nat} (hk : k ≤ w.length) {t : Nat} (ht : t < w.length) : (w.drop k ++ w.take k)[t]? = w[(t + k) % w.length]? := by
  by_cases c : t < w.length - k
  · rw [List.getElem?_append_left (by rw [List.length_drop]; exact c), List.getElem?_drop, Nat.mod_eq_of_lt (by omega), Nat.add_comm]
  · rw [List.getElem?_append_right (by rw [List.length_drop]; omega), List.length_drop, List.getElem?_take]
    have e : (t + k) % w.length = t - (w.length - k) := by
      rw [show t + k = (t - (w.length - k)) + w.length by omega, Nat.add_mod_right, Nat.mod_eq_of_lt (by omega)]
    rw [e, if_pos (by omega)]
theorem IsRing.rot (h : IsRing f w) {k : Nat} (hk : k ≤ w.length) : IsRing f (w.drop k ++ w.take k) := by
  have hl : (w.drop k ++ w.take k).length = w.length := by rw [List.length_append, List.length_drop, List.length_take]; omega
  have hp := h.pos
  refine ⟨List.length_pos_iff.mp (by rw [hl]; exact hp), ?_, fun t ht => ?_⟩
  · have hperm : (w.drop k ++ w.take k).Perm w := by
      have := List.perm_append_comm (l₁ := w.drop k) (l₂ := w.take k)
      rw [List.take_append_drop] at this; exact this
    exact hperm.nodup_iff.mpr h.nd
  · rw [hl] at ht ⊢
    obtain ⟨x, hx, e⟩ := h.go ((t + k) % w.length) (Nat.mod_lt _ hp)
    refine ⟨x, by rw [rot_get w hk ht]; exact hx, ?_⟩
    rw [e, rot_get w hk (Nat.mod_lt _ hp), Nat.mod_add_mod, Nat.mod_add_mod]
    congr 1; congr 1; omega
theorem isRing_along (ha : Along f i v) (hl : v.getLast?.bind f = some i) (hd : v.Nodup) : IsRing f v := by
  have hp : 0 < v.length := List.length_pos_iff.mpr ha.ne
  refine ⟨ha.ne, hd, fun t ht => ⟨_, List.getElem?_eq_getElem ht, ?_⟩⟩
  have e := ha.at_ t ht
  rw [List.getElem?_eq_getElem ht] at e
  have e2 := itr_succ f t i
  rw [e] at e2
  simp only [Option.bind_some] at e2
  rw [← e2]
  by_cases c : t + 1 < v.length
  · rw [Nat.mod_eq_of_lt c]; exact ha.at_ _ c
  · have : t + 1 = v.length := by omega
    rw [this, Nat.mod_self, ha.last, hl]
    have := ha.at_ 0 hp
    exact this
theorem along_nodup (ha : Along f i v) {m : Nat} (hm : itr f m i = some i) (hlen : v.length ≤ m) (hmin : ∀ t, 1 ≤ t → t < m → itr f t i ≠ some i) : v.Nodup := by
  refine List.nodup_iff_pairwise_ne.mpr (List.pairwise_iff_getElem.mpr fun a c ha1 hc1 hac e => ?_)
  have h1 := ha.at_ a ha1
  have h2 := ha.at_ c hc1
  rw [List.getElem?_eq_getElem ha1] at h1
  rw [List.getElem?_eq_getElem hc1, ← e] at h2
  have h3 : itr f (c + (m - c)) i = some i := by rw [show c + (m - c) = m by omega]; exact hm
  rw [itr_add, h2] at h3
  exact hmin (a + (m - c)) (by omega) (by omega) (by rw [itr_add, h1]; exact h3)
theorem ringGo_first : ∀ {k : Nat} {way w : List Int}, Along f i way → (∀ t, 1 ≤ t → t < way.length → itr f t i ≠ some i) → ringGo f i k way = some w → ∀ t, 1 ≤ t → t < w.length → itr f t i ≠ some i
  | 0, _, _, _, _, h => by simp [ringGo] at h
  | k + 1, way, w, ha, hn, h => by
    simp only [ringGo] at h
    split at h
    · cases h
    · next j hj =>
      split at h
      · cases h; exact hn
      · next hij =>
        refine ringGo_first (ha.snoc hj) (fun t h1 h2 => ?_) h
        by_cases hlt : t < way.length
        · exact hn t h1 hlt
        · have e : t = way.length := by simp at h2; omega
          subst e
          rw [ha.last, hj]; exact fun z => hij (Option.some.inj z)
structure RingAt (f : Int → Option Int) (i : Int) (w : List Int) : Prop where
  ring : IsRing f w
  mem : i ∈ w
  hd : w[0]? = some (minOf w)
theorem rotMin_hd (h : w ≠ []) : (rotMin w)[0]? = some (minOf (rotMin w)) := by
  have hm := minOf_mem h
  have hl := List.idxOf_lt_length_of_mem hm
  have e : minOf (rotMin w) = minOf w := (minOf_eq (rotMin_mem.mpr hm) fun y hy => minOf_le y (rotMin_mem.mp hy)).symm
  rw [e]
  unfold rotMin
  rw [rot_get w (by omega) (by omega), Nat.zero_add, Nat.mod_eq_of_lt hl, List.getElem?_eq_getElem hl, List.getElem_idxOf hl]
theorem IsRing.rotMin (h : IsRing f w) : IsRing f (Dl.rotMin w) := h.rot (Nat.le_of_lt (List.idxOf_lt_length_of_mem (minOf_mem h.ne)))
theorem ringAt_rotMin (h : IsRing f v) (hi : i ∈ v) : RingAt f i (rotMin v) := ⟨h.rotMin, rotMin_mem.mpr hi, rotMin_hd h.ne⟩
theorem ringL_at {n : Nat} (h : ringL f n i = some w) : RingAt f i w := by
  unfold ringL at h
  cases e : ringGo f i n [i] with
  | none => rw [e] at h; cases h
  | some v =>
    rw [e] at h; cases h
    obtain ⟨ha, hl⟩ := ringGo_some (along_one f i) e
    have hf := ringGo_first (along_one f i) (fun t h1 h2 => by simp at h2; omega) e
    have hp : 0 < v.length := List.length_pos_iff.mpr ha.ne
    have hm : itr f v.length i = some i := by rw [ha.last, hl]
    refine ringAt_rotMin (isRing_along ha hl (along_nodup ha hm (Nat.le_refl _) hf)) ?_
    have := ha.at_ 0 hp
    exact List.mem_of_getElem? this.symm
theorem IsRing.on (h : IsRing f w) : ∀ x ∈ w, onRing f x := fun x hx => by
  obtain ⟨t, ht, rfl⟩ := List.getElem_of_mem hx
  have hp := h.pos
  refine ⟨w.length - 1, ?_⟩
  rw [show w.length - 1 + 1 = w.length by omega, h.itr_ ht, Nat.add_mod_right, Nat.mod_eq_of_lt ht, List.getElem?_eq_getElem ht]
theorem IsRing.same (h : IsRing f w) (h' : IsRing f v) {x : Int} (hw : x ∈ w) (hv : x ∈ v) (y : Int) : y ∈ w ↔ y ∈ v := (h.reach_iff hw).trans (h'.reach_iff hv).symm
theorem RingAt.uniq (h : RingAt f i w) (h' : RingAt f i v) : w = v := by
  have hs := h.ring.same h'.ring h.mem h'.mem
  have em : minOf w = minOf v := minOf_eq ((hs _).mp (minOf_mem h.ring.ne)) fun y hy => minOf_le y ((hs y).mpr hy)
  have hw := h.hd; have hv := h'.hd
  rw [em] at hw
  have pw := h.ring.pos; have pv := h'.ring.pos
  rw [List.getElem?_eq_getElem pw] at hw
  rw [List.getElem?_eq_getElem pv] at hv
  have e0 : w[0] = v[0] := by rw [Option.some.inj hw, Option.some.inj hv]
  have lw : ∀ {a c : List Int} (ra : IsRing f a) (rc : IsRing f c) (pa : 0 < a.length) (pc : 0 < c.length), a[0] = c[0] → a.length ≤ c.length := by
    intro a c ra rc pa pc e
    by_cases hlt : c.length < a.length
    · have h1 := ra.itr_ pa c.length
      have h2 := rc.itr_ pc c.length
      simp only [Nat.zero_add] at h2; rw [e, h2] at h1; simp only [Nat.zero_add] at h1; rw [Nat.mod_self, Nat.mod_eq_of_lt hlt, List.getElem?_eq_getElem pc, List.getElem?_eq_getElem hlt, ← e] at h1
      have := nd_inj ra.nd pa hlt (Option.some.inj h1)
      omega
    · omega
  have hl : w.length = v.length := Nat.le_antisymm (lw h.ring h'.ring pw pv e0) (lw h'.ring h.ring pv pw e0.symm)
  apply List.ext_getElem hl
  intro k k1 k2
  have h1 := h.ring.itr_ pw k
  have h2 := h'.ring.itr_ pv k
  simp only [Nat.zero_add] at h2; rw [e0, h2] at h1; simp only [Nat.zero_add] at h1; rw [Nat.mod_eq_of_lt k1, Nat.mod_eq_of_lt k2, List.getElem?_eq_getElem k1, List.getElem?_eq_getElem k2] at h1
  exact (Option.some.inj h1).symm
theorem ringL_of {n : Nat} (hf : ∀ i j : Int, 0 ≤ i → i < n → f i = some j → 0 ≤ j ∧ j < n) (i0 : 0 ≤ i) (i1 : i < n) (h : RingAt f i w) : ringL f n i = some w := by
  cases e : ringL f n i with
  | none => exact ((ringL_none hf i0 i1 e) (h.ring.on i h.mem)).elim
  | some v => rw [(ringL_at e).uniq h]
structure IsWay (f : Int → Option Int) (i : Int) (w : List Int) : Prop where
  al : Along f i w
  nd : w.Nodup
  stop : ∀ j, w.getLast?.bind f = some j → j ∈ w
theorem IsWay.ring {n : Nat} (hf : ∀ i j : Int, 0 ≤ i → i < n → f i = some j → 0 ≤ j ∧ j < n) (i0 : 0 ≤ i) (i1 : i < n) (h : IsWay f i w) (hl : w.getLast?.bind f = some i) : ringL f n i = some (rotMin w) :=
  ringL_of hf i0 i1 (ringAt_rotMin (isRing_along h.al hl h.nd) (List.mem_of_getElem? (h.al.at_ 0 (List.length_pos_iff.mpr h.al.ne)).symm))
theorem IsWay.reach_iff (h : IsWay f i w) (y : Int) : y ∈ w ↔ reach f i y := by
  constructor
  · intro hy
    obtain ⟨t, ht, rfl⟩ := List.getElem_of_mem hy
    exact ⟨t, by rw [h.al.at_ t ht, List.getElem?_eq_getElem ht]⟩
  · rintro ⟨k, hk⟩
    have key : ∀ k y, itr f k i = some y → y ∈ w := by
      intro k
      induction k with
      | zero => intro y e; cases e; exact List.mem_of_getElem? (h.al.at_ 0 (List.length_pos_iff.mpr h.al.ne)).symm
      | succ k ih =>
        intro y e
        rw [itr_succ] at e
        cases e1 : itr f k i with
        | none => rw [e1] at e; cases e
        | some z =>
          rw [e1, Option.bind_some] at e
          obtain ⟨t, ht, rfl⟩ := List.getElem_of_mem (ih z e1)
          by_cases c : t + 1 < w.length
          · have h1 := h.al.at_ (t + 1) c
            rw [itr_succ, h.al.at_ t ht, List.getElem?_eq_getElem ht, Option.bind_some, e] at h1
            exact List.mem_of_getElem? h1.symm
          · refine h.stop y ?_
            rw [List.getLast?_eq_getElem?, show w.length - 1 = t by omega, List.getElem?_eq_getElem ht, Option.bind_some, e]
    exact key k y hk
end
def OkBookL (b : List House) : Prop := ∀ h ∈ b, h.2.length ≤ 6 ∧ AmOk h.2
theorem OkBook.l {b : List House} (h : OkBook b) : OkBookL b := fun x hx => ⟨(h.pile x hx).len, (h.pile x hx).am⟩
theorem PayOf.mem : ∀ {b : List House} {ps : List Int}, PayOf b ps → OkBookL b → ∀ p ∈ ps, 0 ≤ p ∧ p ≤ 6000000000
  | [], [], _, _, p, hp => by cases hp
  | h :: b, q :: ps, k, ho, p, hp => by
    rcases List.mem_cons.mp hp with rfl | hp
    · have := ho h (by simp)
      have s := sumA_nonneg (ss := h.2) this.2
      have := this.1
      exact ⟨k.1, by have := k.2.1; omega⟩
    · exact PayOf.mem k.2.2 (fun x hx => ho x (List.mem_cons_of_mem _ hx)) p hp
  | [], _ :: _, k, _, _, _ => k.elim
  | _ :: _, [], k, _, _, _ => k.elim
def ToOk (n : Nat) (ss : List Slip) : Prop := ∀ s ∈ ss, 0 ≤ s.1 ∧ s.1 < n
theorem OkBook.to {b : List House} (hb : OkBook b) : ∀ x ∈ b, ToOk b.length x.2 := fun x hx s hs => (hb.pile x hx).to s hs
theorem nx_some {b : List House} {ps : List Int} {i : Int} {x : Slip} (h : headH b ps i = some x) : nx b ps i = some x.1 := by unfold nx; rw [h]; rfl
theorem nx_range {b : List House} (hb : GoodB b) {ps : List Int} (hp : PayI b ps) : ∀ i j : Int, 0 ≤ i → i < b.length → nx b ps i = some j → 0 ≤ j ∧ j < b.length := fun i j i0 _ h => by
  unfold nx at h
  cases hx : headH b ps i with
  | none => rw [hx] at h; cases h
  | some x => rw [hx] at h; cases h; exact ⟨(head_to hb hp i0 hx).1, (head_to hb hp i0 hx).2.1⟩
def restH (b : List House) (ps : List Int) (i : Int) : Int := ((headH b ps i).getD (0, 0)).2
def restL (b : List House) (ps w : List Int) : Int := minOf (w.map (restH b ps))
theorem Along.in {f : Int → Option Int} {n : Nat} (hf : ∀ i j : Int, 0 ≤ i → i < n → f i = some j → 0 ≤ j ∧ j < n) {i : Int} (i0 : 0 ≤ i) (i1 : i < n) {w : List Int} (h : Along f i w) : ∀ x ∈ w, 0 ≤ x ∧ x < n := by
  have key : ∀ k x, itr f k i = some x → 0 ≤ x ∧ x < n := by
    intro k
    induction k with
    | zero => intro x hx; cases hx; exact ⟨i0, i1⟩
    | succ k ih =>
      intro x hx
      rw [itr_succ] at hx
      cases e : itr f k i with
      | none => rw [e] at hx; cases hx
      | some y => rw [e] at hx; exact hf y x (ih y e).1 (ih y e).2 hx
  intro x hx
  obtain ⟨k, hk, e⟩ := List.getElem_of_mem hx
  exact key k x (by rw [h.at_ k hk, List.getElem?_eq_getElem hk, e])
theorem ringGo_len {f : Int → Option Int} {i : Int} : ∀ {k : Nat} {way w : List Int}, ringGo f i k way = some w → w.length ≤ way.length + k
  | 0, _, _, h => by simp [ringGo] at h
  | k + 1, way, w, h => by
    simp only [ringGo] at h
    split at h
    · cases h
    · next j _ =>
      by_cases hj : j = i
      · rw [if_pos hj] at h; cases h; omega
      · rw [if_neg hj] at h
        have := ringGo_len h
        simp at this; omega
theorem ringL_facts {b : List House} (hb : GoodB b) {ps : List Int} (hp : PayI b ps) {i : Int} (i0 : 0 ≤ i) (i1 : i < b.length) {w : List Int} (h : ringL (nx b ps) b.length i = some w) : i ∈ w ∧ w.length ≤ 1000 ∧ ∀ x ∈ w, (0 ≤ x ∧ x < b.length) ∧ (nx b ps x).isSome = true := by
  obtain ⟨h1, h2, v, ha, _, rfl⟩ := ringL_some h
  refine ⟨h1, ?_, fun x hx => ⟨ha.in (nx_range hb hp) i0 i1 x (rotMin_mem.mp hx), h2 x hx⟩⟩
  unfold ringL at h
  cases e : ringGo (nx b ps) i b.length [i] with
  | none => rw [e] at h; cases h
  | some u =>
    rw [e] at h
    have := ringGo_len e
    have hbl := hb.len
    have hu : rotMin u = rotMin v := by simpa using h
    rw [← hu, rotMin_length]; simp at this; omega
theorem restL_le {b : List House} {ps w : List Int} {x : Int} (hx : x ∈ w) : restL b ps w ≤ restH b ps x := minOf_le _ (List.mem_map_of_mem hx)
theorem restL_mem {b : List House} {ps w : List Int} (hn : w ≠ []) : ∃ x ∈ w, restL b ps w = restH b ps x := by
  have := minOf_mem (w := w.map (restH b ps)) (by simpa using hn)
  rw [List.mem_map] at this
  obtain ⟨x, hx, e⟩ := this
  exact ⟨x, hx, e.symm⟩
theorem restH_pos {b : List House} (hb : GoodB b) {ps : List Int} (hp : PayI b ps) {x : Int} (x0 : 0 ≤ x) (h : (nx b ps x).isSome = true) : ∃ s, headH b ps x = some s ∧ restH b ps x = s.2 ∧ 1 ≤ s.2 ∧ s.2 ≤ 1000000000 := by
  unfold nx at h
  cases e : headH b ps x with
  | none => rw [e] at h; cases h
  | some s => exact ⟨s, rfl, by unfold restH; rw [e]; rfl, (head_to hb hp x0 e).2.2.2⟩
theorem debtsL_range {b : List House} (hb : OkBook b) : ∀ x ∈ debtsL b, 0 ≤ x ∧ x ≤ 6000000000 := fun x hx => by
  unfold debtsL at hx
  rw [List.mem_map] at hx
  obtain ⟨h, hh, rfl⟩ := hx
  have p := hb.pile h hh
  have := sumA_nonneg p.am
  have := p.len
  omega
structure HOk (n i s t : Int) (h : House) : Prop where
  p0 : 0 ≤ h.1
  p1 : h.1 ≤ 1000000000000
  len : (h.2.length : Int) ≤ s
  sl : ∀ y ∈ h.2, (0 ≤ y.1 ∧ y.1 < n) ∧ y.1 ≠ i ∧ 1 ≤ y.2 ∧ y.2 ≤ t
theorem goodB_of {n s t : Int} {b : List House} (hn : (b.length : Int) = n) (n1 : 1 ≤ n) (n6 : n ≤ 6) (s6 : s ≤ 6) (t9 : t ≤ 1000000000) (h : ∀ (i : Nat) x, b[i]? = some x → HOk n i s t x) : GoodB b := by
  have hx : ∀ x ∈ b, ∃ i : Nat, HOk n i s t x := fun x hx => by
    obtain ⟨i, hi, e⟩ := List.getElem_of_mem hx
    exact ⟨i, h i x (by rw [List.getElem?_eq_getElem hi, e])⟩
  refine { pos := by omega, len := by omega, purse := fun x hb => ?_, pile := fun x hb => ?_, ns := fun i i0 y hy => ?_ }
  · obtain ⟨i, k⟩ := hx x hb; exact ⟨k.p0, k.p1⟩
  · obtain ⟨i, k⟩ := hx x hb
    exact ⟨by have := k.len; omega, fun y hy => by rw [hn]; exact (k.sl y hy).1, fun y hy => ⟨(k.sl y hy).2.2.1, by have := (k.sl y hy).2.2.2; omega⟩⟩
  · unfold gh at hy
    rw [List.getD_eq_getElem?_getD] at hy
    cases e : b[i.toNat]? with
    | none => rw [e] at hy; simp at hy
    | some x =>
      rw [e] at hy
      have := (h _ x e).sl y (by simpa using hy)
      rw [show ((i.toNat : Nat) : Int) = i by omega] at this
      exact this.2.1
def dueI (b : List House) (ps : List Int) (i : Int) : Int := min (sumA (gh b i).2) ((gh b i).1 + recvH b ps i)
theorem sm_ps {ps : List Int} {n : Nat} (hl : ps.length ≤ n) (h : ∀ x ∈ ps, -1000000000000 ≤ x ∧ x ≤ 1000000000000) : Sm (1 + n * 1) 1 (eT eI ps) := sm_T (m := 1) (h := 0) hl fun z hz => sm_I (by have := h z hz; omega) (by have := h z hz; omega)
theorem PayI.mem {b : List House} (hb : OkBook b) {ps : List Int} (hp : PayI b ps) : ∀ x ∈ ps, 0 ≤ x ∧ x ≤ 6000000000 := fun x hx => by
  obtain ⟨i, hi, e⟩ := List.getElem_of_mem hx
  have hpl := hp.len
  have k := hp.ge i (by omega) (by omega)
  rw [gp_nat hi, e] at k
  have := debtsL_range hb (sumA (gh b i).2) (by
    unfold debtsL
    rw [gh_nat (by omega)]
    exact List.mem_map_of_mem (List.getElem_mem _))
  omega
theorem ne_self {x : Str} {P Q : Prop} (q : Q) : if (!(eqB x x)) = true then P else Q := by rw [if_neg (by simp [eqB])]; exact q
section
variable {b : List House} {ps qs S P L : List Int} {w : List Int} {i a : Int}
def HB (b : List House) (ps : List Int) : Prop := ∀ k : Int, 0 ≤ k → k < b.length → 0 ≤ heldI b ps k
def Setl (b : List House) (S : List Int) : Prop := PayI b S ∧ ∀ k : Int, 0 ≤ k → k < b.length → gp S k = dueI b S k
def Below (b : List House) (p q : List Int) : Prop := ∀ k : Int, 0 ≤ k → k < b.length → gp p k ≤ gp q k
inductive Move (b : List House) (ps : List Int) : (Str × Int × Int) → List Int → Prop where
  | pay {i a : Int} {x : Slip} (i0 : 0 ≤ i) (i1 : i < b.length) (hx : headH b ps i = some x) (a1 : 1 ≤ a) (ah : a ≤ heldI b ps i) (ax : a ≤ x.2) : Move b ps (("pay" : Str), i, a) (moreL ps [i] a)
  | ring {i a o : Int} {w : List Int} (i0 : 0 ≤ i) (i1 : i < b.length) (hw : ringL (nx b ps) b.length i = some w) (a1 : 1 ≤ a) (ar : a ≤ restL b ps w) (ho : o ∈ w) (hh : 1 ≤ heldI b ps o) : Move b ps (("ring" : Str), i, a) (moreL ps w a)
inductive Steps (b : List House) : List Int → List (Str × Int × Int) → List Int → Prop where
  | nil (ps : List Int) : Steps b ps [] ps
  | cons {ps qs rs : List Int} {s : Str × Int × Int} {r : List (Str × Int × Int)} : Move b ps s qs → Steps b qs r rs → Steps b ps (s :: r) rs
theorem Steps.snoc {rs : List Int} {s : Str × Int × Int} {r : List (Str × Int × Int)} (h : Steps b ps r qs) (k : Move b qs s rs) : Steps b ps (r ++ [s]) rs := by
  induction h with
  | nil ps => exact .cons k (.nil _)
  | cons h1 _ ih => exact .cons h1 (ih k)
theorem gp_ext (hp : ps.length = qs.length) (h : ∀ k : Int, 0 ≤ k → k < ps.length → gp ps k = gp qs k) : ps = qs := by
  apply List.ext_getElem hp
  intro k k1 k2
  have := h k (by omega) (by omega)
  rw [gp_nat k1, gp_nat k2] at this; exact this
theorem below_anti (hp : PayI b ps) (hq : PayI b qs) (h1 : Below b ps qs) (h2 : Below b qs ps) : ps = qs :=
  gp_ext (by rw [hp.len, hq.len]) fun k k0 k1 => by
    have := hp.len
    have := h1 k k0 (by omega); have := h2 k k0 (by omega); omega
theorem recv_mono (hb : GoodB b) (hp : PayI b ps) (hq : PayI b qs) (h : Below b ps qs) (k : Int) : recvH b ps k ≤ recvH b qs k := by
  rw [recvH_eq k hp.len, recvH_eq k hq.len]
  exact sumN_le fun j j0 j1 => paidTo_mono (hb.am j) (hp.ge j j0 j1).1 (h j j0 j1) k
theorem paidTo_lt {ss : List Slip} {p q : Int} {x : Slip} (ha : AmOk ss) (hp : 0 ≤ p) (h : nextS ss p = some x) (hq : p < q) : paidTo ss p x.1 < paidTo ss q x.1 := by
  have h1 := nextS_some ha hp h
  have h2 := paidTo_stepS (a := 1) ha hp h (by omega) (by omega) x.1
  rw [if_pos rfl] at h2
  have h3 := paidTo_mono ha (p := p + 1) (q := q) (by omega) (by omega) x.1
  omega
theorem ring_can (hb : GoodB b) (hp : PayI b ps) (i0 : 0 ≤ i) (i1 : i < b.length) (hw : ringL (nx b ps) b.length i = some w) (ar : a ≤ restL b ps w) : CanPay b ps (fun k => k ∈ w) a := fun k hk => by
  obtain ⟨w1, w2, w3⟩ := ringL_facts hb hp i0 i1 hw
  obtain ⟨z, hz, hz2, _, _⟩ := restH_pos hb hp (w3 k hk).1.1 (w3 k hk).2
  have := restL_le (b := b) (ps := ps) hk
  exact ⟨(w3 k hk).1, z, hz, by omega⟩
theorem restL_pos (hb : GoodB b) (hp : PayI b ps) (i0 : 0 ≤ i) (i1 : i < b.length) (hw : ringL (nx b ps) b.length i = some w) : 1 ≤ restL b ps w ∧ restL b ps w ≤ 1000000000 := by
  obtain ⟨w1, w2, w3⟩ := ringL_facts hb hp i0 i1 hw
  obtain ⟨o, ho, e⟩ := restL_mem (b := b) (ps := ps) (List.ne_nil_of_mem w1)
  obtain ⟨z, hz, hz2, h3, h4⟩ := restH_pos hb hp (w3 o ho).1.1 (w3 o ho).2
  omega
theorem ring_recv (hb : GoodB b) (hp : PayI b ps) (i0 : 0 ≤ i) (i1 : i < b.length) (hw : ringL (nx b ps) b.length i = some w) (h0 : 0 ≤ a) (ar : a ≤ restL b ps w) {h : Int} : recvH b (moreL ps w a) h = recvH b ps h + (if h ∈ w then a else 0) := by
  rw [(paid_more hp w a).recv hb hp h0 (ring_can hb hp i0 i1 hw ar) h]
  congr 1
  have R := (ringL_at hw).ring
  obtain ⟨w1, w2, w3⟩ := ringL_facts hb hp i0 i1 hw
  by_cases hh : h ∈ w
  · obtain ⟨k0, hk0, e⟩ := R.pred hh
    rw [if_pos hh, sumN_congr (g := fun k => if k0 = k then a else 0) fun k _ _ => ?_, sumN_one _ _ _ (w3 k0 hk0).1.1 (w3 k0 hk0).1.2]
    by_cases hk : k0 = k
    · subst hk; rw [if_pos ⟨hk0, e⟩, if_pos rfl]
    · rw [if_neg hk, if_neg fun z => hk (R.inj hk0 z.1 e z.2)]
  · rw [if_neg hh, sumN_congr (g := fun _ => 0) fun k _ _ => ?_, sumN_const0]
    rw [if_neg]
    rintro ⟨hk, e⟩
    obtain ⟨y, hy, e'⟩ := R.succ hk
    rw [e] at e'; cases e'; exact hh hy
theorem ring_held (hb : GoodB b) (hp : PayI b ps) (i0 : 0 ≤ i) (i1 : i < b.length) (hw : ringL (nx b ps) b.length i = some w) (h0 : 0 ≤ a) (ar : a ≤ restL b ps w) {k : Int} (k0 : 0 ≤ k) (k1 : k < b.length) : heldI b (moreL ps w a) k = heldI b ps k := by
  unfold heldI
  rw [ring_recv hb hp i0 i1 hw h0 ar, moreL_gp k0 (by rw [hp.len]; exact k1)]
  split <;> omega
theorem ring_payI (hb : GoodB b) (hp : PayI b ps) (i0 : 0 ≤ i) (i1 : i < b.length) (hw : ringL (nx b ps) b.length i = some w) (h0 : 0 ≤ a) (ar : a ≤ restL b ps w) : PayI b (moreL ps w a) :=
  (paid_more hp w a).payI hb hp h0 (ring_can hb hp i0 i1 hw ar)
theorem one_paid (hp : PayI b ps) : Paid b ps (moreL ps [i] a) (fun k => k = i) a := by simpa using paid_more hp [i] a
theorem pay_payI (hb : GoodB b) (hp : PayI b ps) (i0 : 0 ≤ i) (i1 : i < b.length) {x : Slip} (hx : headH b ps i = some x) (h0 : 0 ≤ a) (ax : a ≤ x.2) : PayI b (moreL ps [i] a) :=
  (one_paid hp).payI hb hp h0 fun k hk => by subst hk; exact ⟨⟨i0, i1⟩, x, hx, ax⟩
theorem pay_held (hb : GoodB b) (hp : PayI b ps) (i0 : 0 ≤ i) (i1 : i < b.length) {x : Slip} (hx : headH b ps i = some x) (h0 : 0 ≤ a) (ax : a ≤ x.2) {k : Int} (k0 : 0 ≤ k) (k1 : k < b.length) : heldI b (moreL ps [i] a) k = heldI b ps k + (if x.1 = k then a else 0) - (if k = i then a else 0) := by
  unfold heldI
  rw [pay_recv hb hp (one_paid hp) i0 i1 hx h0 ax, moreL_gp k0 (by rw [hp.len]; exact k1)]
  have : (k ∈ [i]) = (k = i) := by simp
  simp only [this]
  omega
theorem Move.payI (hb : GoodB b) (hp : PayI b ps) {s : Str × Int × Int} (h : Move b ps s qs) : PayI b qs := by
  cases h with
  | pay i0 i1 hx a1 ah ax => exact pay_payI hb hp i0 i1 hx (by omega) ax
  | ring i0 i1 hw a1 ar ho hh => exact ring_payI hb hp i0 i1 hw (by omega) ar
theorem Move.hB (hb : GoodB b) (hp : PayI b ps) (hB : HB b ps) {s : Str × Int × Int} (h : Move b ps s qs) : HB b qs := by
  cases h with
  | pay i0 i1 hx a1 ah ax =>
    intro k k0 k1
    rw [pay_held hb hp i0 i1 hx (by omega) ax k0 k1]
    have := hB k k0 k1
    split <;> split <;> (try subst_vars) <;> omega
  | ring i0 i1 hw a1 ar ho hh =>
    intro k k0 k1
    rw [ring_held hb hp i0 i1 hw (by omega) ar k0 k1]
    exact hB k k0 k1
theorem Setl.le (h : Setl b S) {k : Int} (k0 : 0 ≤ k) (k1 : k < b.length) : gp S k ≤ (gh b k).1 + recvH b S k := by
  have := h.2 k k0 k1; unfold dueI at this; omega
theorem Move.below (hb : GoodB b) (hp : PayI b ps) (hB : HB b ps) (hS : Setl b S) (hle : Below b ps S) {s : Str × Int × Int} (h : Move b ps s qs) : Below b qs S := by
  cases h with
  | @pay i a x i0 i1 hx a1 ah ax =>
    intro k k0 k1
    have h1 := hle k k0 k1
    rw [moreL_gp k0 (by rw [hp.len]; exact k1)]
    by_cases hk : k = i
    · subst hk
      rw [if_pos (by simp)]
      have h2 := hS.2 k k0 k1
      have h3 := recv_mono hb hp hS.1 hle k
      have h4 := nextS_some (hb.am k) (hp.ge k k0 k1).1 hx
      unfold heldI at ah
      unfold dueI at h2
      omega
    · rw [if_neg (by simpa using hk)]; omega
  | @ring i a o w i0 i1 hw a1 ar ho hh =>
    have R := (ringL_at hw).ring
    obtain ⟨w1, w2, w3⟩ := ringL_facts hb hp i0 i1 hw
    have hmin := minOf_mem (w := w.map fun k => gp S k - gp ps k) (by simpa using List.ne_nil_of_mem w1)
    rw [List.mem_map] at hmin
    obtain ⟨k0, hk0, ek0⟩ := hmin
    have hall : ∀ k ∈ w, gp S k0 - gp ps k0 ≤ gp S k - gp ps k := fun k hk => by
      rw [ek0]; exact minOf_le _ (List.mem_map_of_mem hk)
    have d0 : 0 ≤ gp S k0 - gp ps k0 := by have := hle k0 (w3 k0 hk0).1.1 (w3 k0 hk0).1.2; omega
    obtain ⟨d, hd0⟩ : ∃ d, d = gp S k0 - gp ps k0 := ⟨_, rfl⟩
    rw [← hd0] at hall d0
    by_cases hda : a ≤ d
    · intro k kk0 kk1
      have h1 := hle k kk0 kk1
      rw [moreL_gp kk0 (by rw [hp.len]; exact kk1)]
      split
      · next hk => have := hall k hk; omega
      · omega
    · exfalso
      have hp' := ring_payI hb hp i0 i1 hw (a := d) d0 (by omega)
      have hle' : Below b (moreL ps w d) S := fun k kk0 kk1 => by
        have h1 := hle k kk0 kk1
        rw [moreL_gp kk0 (by rw [hp.len]; exact kk1)]
        split
        · next hk => have := hall k hk; omega
        · omega
      have hstk : ∀ y ∈ w, gp S y = gp (moreL ps w d) y → gp S y = (gh b y).1 + recvH b S y := fun y hy e => by
        obtain ⟨⟨y0, y1⟩, y2⟩ := w3 y hy
        obtain ⟨z, hz, hz2, hz3, _⟩ := restH_pos hb hp y0 y2
        have h1 := nextS_some (hb.am y) (hp.ge y y0 y1).1 hz
        have h2 := restL_le (b := b) (ps := ps) hy
        have h3 := hS.2 y y0 y1
        rw [moreL_gp y0 (by rw [hp.len]; exact y1), if_pos hy] at e
        unfold dueI at h3
        omega
      have all := R.back (P := fun k => gp S k = gp (moreL ps w d) k) (fun x y hx hy e py => by
        obtain ⟨⟨x0, x1⟩, x2⟩ := w3 x hx
        obtain ⟨⟨y0, y1⟩, y2⟩ := w3 y hy
        have hs := hstk y hy py
        have hd := ring_held hb hp i0 i1 hw (a := d) d0 (by omega) y0 y1
        have hB' := hB y y0 y1
        have hm := recv_mono hb hp' hS.1 hle' y
        have heq : recvH b S y = recvH b (moreL ps w d) y := by
          unfold heldI at hd hB'; omega
        obtain ⟨z, hz, hz2, hz3, _⟩ := restH_pos hb hp x0 x2
        have hr := restL_le (b := b) (ps := ps) hx
        have ez : z.1 = y := by
          have := nx_some hz
          rw [e] at this; exact (Option.some.inj this).symm
        have hz' : nextS (gh b x).2 (gp (moreL ps w d) x) = some (z.1, z.2 - d) := by
          rw [moreL_gp x0 (by rw [hp.len]; exact x1), if_pos hx]
          exact nextS_add hz d0 (by omega)
        have hxx := hle' x x0 x1
        by_cases hlt : gp (moreL ps w d) x < gp S x
        · exfalso
          have hl := paidTo_lt (hb.am x) (hp'.ge x x0 x1).1 hz' hlt
          rw [recvH_eq y hS.1.len, recvH_eq y hp'.len] at heq
          have := sumN_lt (n := b.length) (f := fun k => paidTo (gh b k).2 (gp (moreL ps w d) k) y) (g := fun k => paidTo (gh b k).2 (gp S k) y) x0 x1 (fun k kk0 kk1 => paidTo_mono (hb.am k) (hp'.ge k kk0 kk1).1 (hle' k kk0 kk1) y) (by show paidTo _ _ y < paidTo _ _ y; rw [← ez]; exact hl)
          omega
        · omega) hk0 (by
          rw [moreL_gp (w3 k0 hk0).1.1 (by rw [hp.len]; exact (w3 k0 hk0).1.2), if_pos hk0]
          have := hall k0 hk0
          have := hle' k0 (w3 k0 hk0).1.1 (w3 k0 hk0).1.2
          rw [moreL_gp (w3 k0 hk0).1.1 (by rw [hp.len]; exact (w3 k0 hk0).1.2), if_pos hk0] at this
          omega)
      have ho1 := all o ho
      have ho2 := hstk o ho ho1
      obtain ⟨⟨o0, o1⟩, _⟩ := w3 o ho
      have hd := ring_held hb hp i0 i1 hw (a := d) d0 (by omega) o0 o1
      have hm := recv_mono hb hp' hS.1 hle' o
      unfold heldI at hd hh
      omega
end
section
variable {b : List House} {ps qs S P L G : List Int} {w : List Int} {i a : Int}
theorem recv_nonneg (hb : GoodB b) (hp : PayI b ps) (k : Int) : 0 ≤ recvH b ps k := by
  rw [recvH_eq k hp.len]
  exact sumN_nonneg fun j j0 j1 => paidTo_nonneg (hb.am j) (hp.ge j j0 j1).1 k
structure LeastS (b : List House) (L : List Int) : Prop where
  set : Setl b L
  le : ∀ S, Setl b S → Below b L S
structure GreatS (b : List House) (G : List Int) : Prop where
  set : Setl b G
  ge : ∀ S, Setl b S → Below b S G
theorem LeastS.uniq (h : LeastS b L) (h' : LeastS b S) : L = S := below_anti h.set.1 h'.set.1 (h.le _ h'.set) (h'.le _ h.set)
theorem GreatS.uniq (h : GreatS b G) (h' : GreatS b S) : G = S := below_anti h.set.1 h'.set.1 (h'.ge _ h.set) (h.ge _ h'.set)
theorem turn_setl (hb : GoodB b) (hS : Setl b S) (i0 : 0 ≤ i) (i1 : i < b.length) (hw : ringL (nx b S) b.length i = some w) (h0 : 0 ≤ a) (ar : a ≤ restL b S w) : Setl b (moreL S w a) := by
  refine ⟨ring_payI hb hS.1 i0 i1 hw h0 ar, fun k k0 k1 => ?_⟩
  have h1 := hS.2 k k0 k1
  unfold dueI at h1 ⊢
  rw [ring_recv hb hS.1 i0 i1 hw h0 ar, moreL_gp k0 (by rw [hS.1.len]; exact k1)]
  by_cases hk : k ∈ w
  · rw [if_pos hk]
    obtain ⟨_, x, hx, hax⟩ := ring_can hb hS.1 i0 i1 hw ar k hk
    have h2 := nextS_some (hb.am k) (hS.1.ge k k0 k1).1 hx
    omega
  · rw [if_neg hk]; omega
end
section
variable {f : Int} {b : List House} {ps qs S L G : List Int} {w : List Int} {i a : Int}
end
section
variable {b : List House} {ps qs S L G : List Int} {w : List Int} {i a : Int}
end
def goodC (b : List House) : Bool := decide (1 ≤ b.length) && decide (b.length ≤ 6) && b.zipIdx.all fun p => decide (0 ≤ p.1.1) && decide (p.1.1 ≤ 1000000000000) && decide (p.1.2.length ≤ 6) && p.1.2.all fun s => decide (0 ≤ s.1) && decide (s.1 < (b.length : Int)) && decide (s.1 ≠ (p.2 : Int)) && decide (1 ≤ s.2) && decide (s.2 ≤ 1000000000)
theorem goodC_ok {b : List House} (h : goodC b = true) : GoodB b := by
  unfold goodC at h
  simp only [Bool.and_eq_true, decide_eq_true_eq, List.all_eq_true] at h
  obtain ⟨⟨h1, h2⟩, h3⟩ := h
  refine goodB_of (n := b.length) (s := 6) (t := 1000000000) rfl (by omega) (by omega) (by omega) (by omega) fun i x hx => ?_
  obtain ⟨⟨⟨a1, a2⟩, a3⟩, a4⟩ := h3 (x, i) (List.mem_zipIdx_iff_getElem?.mpr hx)
  have a3' : x.2.length ≤ 6 := a3
  exact ⟨a1, a2, by show (x.2.length : Int) ≤ 6; omega, fun y hy => by
    obtain ⟨⟨⟨⟨c1, c2⟩, c3⟩, c4⟩, c5⟩ := a4 y hy
    exact ⟨⟨c1, c2⟩, c3, c4, c5⟩⟩
theorem Setl.mem {b : List House} (hb : GoodB b) {S : List Int} (h : Setl b S) : ∀ x ∈ S, 0 ≤ x ∧ x ≤ 6000000000 := h.1.mem hb.toOkBook
theorem F2.imp {α β : Type} {R S : α → β → Prop} : ∀ {xs : List α} {ys : List β}, F2 R xs ys → (∀ x ∈ xs, ∀ y, R x y → S x y) → F2 S xs ys
  | _, _, .nil, _ => .nil
  | _, _, .cons (x := x) r t, h => .cons (h x (by simp) _ r) (t.imp fun z hz => h z (by simp [hz]))
section
variable {b : List House} {ps qs S T P L G : List Int} {w : List Int} {i a : Int}
theorem Setl.free (hS : Setl b S) {k : Int} (k0 : 0 ≤ k) (k1 : k < b.length) (h : 0 < heldI b S k) : gp S k = sumA (gh b k).2 := by
  have h1 := hS.2 k k0 k1
  unfold dueI at h1; unfold heldI at h; omega
def ringsL (b : List House) (ps : List Int) : List (List Int) := (rgI 0 b.length).filterMap fun i => (ringL (nx b ps) b.length i).bind fun w => if w.head? = some i then some w else none
theorem mem_ringsL : w ∈ ringsL b ps ↔ ∃ i, (0 ≤ i ∧ i < (b.length : Int)) ∧ ringL (nx b ps) b.length i = some w ∧ w.head? = some i := by
  unfold ringsL
  rw [List.mem_filterMap]
  constructor
  · rintro ⟨i, hi, h⟩
    refine ⟨i, by have := mem_rgI.mp hi; omega, ?_⟩
    cases e : ringL (nx b ps) b.length i with
    | none => rw [e] at h; cases h
    | some v =>
      rw [e, Option.bind_some] at h
      split at h
      · next hh => cases h; exact ⟨rfl, hh⟩
      · cases h
  · rintro ⟨i, hi, e, hh⟩
    exact ⟨i, mem_rgI.mpr (by omega), by rw [e, Option.bind_some, if_pos hh]⟩
end
section
variable {b : List House} {ps qs rs S T P L G : List Int} {w v : List Int} {i j a : Int}
theorem isRing_congr {f g : Int → Option Int} (h : IsRing f w) (e : ∀ x ∈ w, g x = f x) : IsRing g w := ⟨h.ne, h.nd, fun t ht => by
  obtain ⟨x, hx, hf⟩ := h.go t ht
  exact ⟨x, hx, by rw [e x (List.mem_of_getElem? hx)]; exact hf⟩⟩
theorem rgI_pair (lo : Int) (n : Nat) : (rgI lo n).Pairwise (· < ·) := by
  unfold rgI
  refine List.pairwise_map.mpr (List.pairwise_lt_range.imp fun {a b} h => by omega)
end
section
variable {b : List House} {ps qs rs S T P L G : List Int} {w v : List Int} {i j a : Int}
end
section
variable {n : Nat} {w : List Int} {o0 : Int} {s : List (List Slip)}
def OnR (n : Nat) (w : List Int) (s : List (List Slip)) (t : Nat) : Prop := ∃ (h : Nat) (y a : Int), w[t]? = some (h : Int) ∧ h < n ∧ 1 ≤ a ∧ a ≤ 1000000000 ∧ w[(t + 1) % w.length]? = some y ∧ s[h]? = some [(y, a)]
structure K1 (n : Nat) (w : List Int) (k : Nat) (s : List (List Slip)) : Prop where
  len : s.length = n
  on : ∀ t : Nat, t < k → OnR n w s t
  off : ∀ h : Nat, h < n → (∀ t : Nat, t < k → w[t]? ≠ some (h : Int)) → s[h]? = some []
structure OneR (n : Nat) (w : List Int) (o0 : Int) (s : List (List Slip)) : Prop where
  len : s.length = n
  on : ∀ t : Nat, t < w.length → OnR n w s t
  off : ∀ h : Nat, h < n → (h : Int) ∉ w → s[h]? = some [] ∨ s[h]? = some [(o0, 1)]
theorem K1.zero : K1 n w 0 (List.replicate n []) := ⟨List.length_replicate, fun t h => by omega, fun h hn _ => by rw [List.getElem?_replicate, if_pos hn]⟩
theorem K1.step (S : K1 n w k s) (hd : w.Nodup) {h : Nat} {y a : Int} (hk : w[k]? = some (h : Int)) (hn : h < n) (hy : w[(k + 1) % w.length]? = some y) (a0 : 1 ≤ a) (a1 : a ≤ 1000000000) : K1 n w (k + 1) (s.set h [(y, a)]) := by
  have hkl : k < w.length := (List.getElem?_eq_some_iff.mp hk).1
  refine ⟨by rw [List.length_set, S.len], fun t ht => ?_, fun h' hn' hno => ?_⟩
  · by_cases e : t = k
    · subst e
      exact ⟨h, y, a, hk, hn, a0, a1, hy, List.getElem?_set_self (by rw [S.len]; exact hn)⟩
    · obtain ⟨h', y', a', e1, e2, e3, e4, e5, e6⟩ := S.on t (by omega)
      refine ⟨h', y', a', e1, e2, e3, e4, e5, ?_⟩
      rw [List.getElem?_set_ne (fun z => ?_)]
      · exact e6
      · subst z
        have htl : t < w.length := (List.getElem?_eq_some_iff.mp e1).1
        rw [List.getElem?_eq_getElem htl] at e1
        rw [List.getElem?_eq_getElem hkl] at hk
        exact e (nd_inj hd htl hkl (Option.some.inj (e1.trans hk.symm)))
  · rw [List.getElem?_set_ne (fun z => hno k (by omega) (by rw [hk, z]))]
    exact S.off h' hn' fun t ht => hno t (by omega)
theorem K1.done (S : K1 n w w.length s) : OneR n w o0 s := ⟨S.len, S.on, fun h hn hw => .inl (S.off h hn fun t _ e => hw (List.mem_of_getElem? e))⟩
theorem OneR.step (S : OneR n w o0 s) {h : Nat} (hn : h < n) (hw : (h : Int) ∉ w) {p : List Slip} (hp : p = [] ∨ p = [(o0, 1)]) : OneR n w o0 (s.set h p) := by
  refine ⟨by rw [List.length_set, S.len], fun t ht => ?_, fun h' hn' hw' => ?_⟩
  · obtain ⟨h', y', a', e1, e2, e3, e4, e5, e6⟩ := S.on t ht
    refine ⟨h', y', a', e1, e2, e3, e4, e5, ?_⟩
    rw [List.getElem?_set_ne (fun z => hw (by rw [z]; exact List.mem_of_getElem? e1))]
    exact e6
  · by_cases e : h = h'
    · subst e
      rw [List.getElem?_set_self (by rw [S.len]; exact hn)]
      rcases hp with z | z <;> rw [z]
      · exact .inl rfl
      · exact .inr rfl
    · rw [List.getElem?_set_ne e]; exact S.off h' hn' hw'
abbrev bk0 (s : List (List Slip)) : List House := s.map fun p => ((0 : Int), p)
theorem OneR.pile (S : OneR n w o0 s) (hd : w.Nodup) (h2 : 2 ≤ w.length) (ho : o0 ∈ w) {h : Nat} (hn : h < n) : ∃ p, s[h]? = some p ∧ (p = [] ∧ (h : Int) ∉ w ∨ ∃ y a, p = [(y, a)] ∧ y ∈ w ∧ 1 ≤ a ∧ a ≤ 1000000000 ∧ y ≠ (h : Int)) := by
  by_cases hw : (h : Int) ∈ w
  · obtain ⟨t, ht, e⟩ := List.getElem_of_mem hw
    obtain ⟨h', y, a, e1, e2, e3, e4, e5, e6⟩ := S.on t ht
    rw [List.getElem?_eq_getElem ht, e] at e1
    have : h = h' := by have := Option.some.inj e1; omega
    subst this
    refine ⟨_, e6, .inr ⟨y, a, rfl, List.mem_of_getElem? e5, e3, e4, fun z => ?_⟩⟩
    have hm : (t + 1) % w.length < w.length := Nat.mod_lt _ (by omega)
    rw [List.getElem?_eq_getElem hm] at e5
    have := nd_inj hd hm ht (by rw [Option.some.inj e5, e]; exact z)
    by_cases hc : t + 1 < w.length
    · rw [Nat.mod_eq_of_lt hc] at this; omega
    · have e7 : t + 1 = w.length := by omega
      rw [e7, Nat.mod_self] at this; omega
  · rcases S.off h hn hw with e | e
    · exact ⟨_, e, .inl ⟨rfl, hw⟩⟩
    · exact ⟨_, e, .inr ⟨o0, 1, rfl, ho, by omega, by omega, fun z => hw (by rw [← z]; exact ho)⟩⟩
theorem bk0_gh {h : Nat} {p : List Slip} (e : s[h]? = some p) : gh (bk0 s) (h : Int) = (0, p) := by
  have hl := (List.getElem?_eq_some_iff.mp e).1
  rw [gh_nat (by rw [List.length_map]; exact hl), List.getElem_map]
  rw [List.getElem?_eq_getElem hl] at e
  rw [Option.some.inj e]
theorem OneR.good (S : OneR n w o0 s) (n2 : 2 ≤ n) (n6 : n ≤ 6) (hd : w.Nodup) (h2 : 2 ≤ w.length) (hr : ∀ x ∈ w, 0 ≤ x ∧ x < (n : Int)) (ho : o0 ∈ w) : GoodB (bk0 s) := by
  have hlen : (bk0 s).length = n := by rw [List.length_map, S.len]
  refine { pos := by omega, len := by omega, purse := fun x hx => ?_, pile := fun x hx => ?_, ns := fun i i0 sl hsl => ?_ }
  · obtain ⟨p, _, rfl⟩ := List.mem_map.mp hx
    exact ⟨Int.le_refl _, by show (0 : Int) ≤ _; omega⟩
  · obtain ⟨p, hp, rfl⟩ := List.mem_map.mp hx
    obtain ⟨h, hh, e⟩ := List.getElem_of_mem hp
    obtain ⟨p', e1, e2⟩ := S.pile hd h2 ho (h := h) (by rw [← S.len]; exact hh)
    rw [List.getElem?_eq_getElem hh, e] at e1
    cases e1
    show OkPile ((bk0 s).length : Int) p
    rw [hlen]
    rcases e2 with ⟨rfl, _⟩ | ⟨y, a, rfl, hy, a0, a1, _⟩
    · exact ⟨by simp, fun z hz => (by cases hz), fun z hz => (by cases hz)⟩
    · exact ⟨by simp, fun z hz => by rw [List.mem_singleton.mp hz]; exact hr y hy, fun z hz => by rw [List.mem_singleton.mp hz]; exact ⟨a0, a1⟩⟩
  · obtain ⟨h, rfl⟩ : ∃ h : Nat, i = (h : Int) := ⟨i.toNat, by omega⟩
    by_cases hn : h < n
    · obtain ⟨p', e1, e2⟩ := S.pile hd h2 ho (h := h) hn
      rw [bk0_gh e1] at hsl
      rcases e2 with ⟨rfl, _⟩ | ⟨y, a, rfl, hy, a0, a1, hne⟩
      · cases hsl
      · rw [List.mem_singleton.mp hsl]; exact hne
    · unfold gh at hsl
      rw [List.getD_eq_getElem?_getD, List.getElem?_eq_none_iff.mpr (by rw [hlen]; omega)] at hsl
      cases hsl
end
section
variable {b c : List House} {ps qs S T P L G Q : List Int} {k : Int}
def dueL (b : List House) (Q : List Int) : List Int := (rgI 0 b.length).map (dueI b Q)
theorem dueL_gp (k0 : 0 ≤ k) (k1 : k < b.length) : gp (dueL b Q) k = dueI b Q k := by
  obtain ⟨j, rfl⟩ : ∃ j : Nat, k = (j : Int) := ⟨k.toNat, by omega⟩
  have hj : j < b.length := by omega
  have hl : j < (dueL b Q).length := by unfold dueL; rw [List.length_map, rgI_length]; exact hj
  rw [gp_nat hl]
  have e : (dueL b Q)[j]? = some (dueI b Q j) := by
    unfold dueL
    rw [List.getElem?_map, rgI_at hj, Option.map_some, Int.zero_add]
  rw [List.getElem?_eq_getElem hl] at e
  exact Option.some.inj e
theorem sumA_ge0 (hb : GoodB b) (k : Int) : 0 ≤ sumA (gh b k).2 := sumA_ge (hb.am k)
theorem due_range (hb : GoodB b) (hp : PayI b Q) (k0 : 0 ≤ k) (k1 : k < b.length) : 0 ≤ dueI b Q k ∧ dueI b Q k ≤ sumA (gh b k).2 := by
  have h1 := hb.purse _ (hb.gpile k0 k1)
  have h2 := recv_nonneg hb hp k
  have h3 := sumA_ge0 hb k
  unfold dueI; omega
theorem dueL_pay (hb : GoodB b) (hp : PayI b Q) : PayI b (dueL b Q) := ⟨by unfold dueL; rw [List.length_map, rgI_length], fun k k0 k1 => by
  rw [dueL_gp k0 k1]; exact due_range hb hp k0 k1⟩
theorem due_mono (hb : GoodB b) (hp : PayI b P) (hq : PayI b Q) (h : Below b P Q) (k : Int) : dueI b P k ≤ dueI b Q k := by
  have := recv_mono hb hp hq h k
  unfold dueI; omega
theorem sub_setl (hb : GoodB b) : ∀ (m : Nat) (Q : List Int), (sumN b.length (fun k => sumA (gh b k).2 - gp Q k)).toNat ≤ m → PayI b Q → (∀ k : Int, 0 ≤ k → k < b.length → gp Q k ≤ dueI b Q k) → ∃ S, Setl b S ∧ Below b Q S := by
  intro m
  induction m with
  | zero =>
    intro Q hm hp hs
    refine ⟨Q, ⟨hp, fun k k0 k1 => ?_⟩, fun k _ _ => Int.le_refl _⟩
    have h1 := due_range hb hp k0 k1
    have h2 := hs k k0 k1
    by_cases hc : gp Q k < sumA (gh b k).2
    · have := sumN_lt (n := b.length) (f := fun _ => 0) (g := fun k => sumA (gh b k).2 - gp Q k) k0 k1 (fun j j0 j1 => by have := (hp.ge j j0 j1).2; omega) (by show 0 < _ - _; omega)
      rw [sumN_const0] at this; omega
    · omega
  | succ m ih =>
    intro Q hm hp hs
    by_cases hall : ∀ k : Int, 0 ≤ k → k < b.length → gp Q k = dueI b Q k
    · exact ⟨Q, ⟨hp, hall⟩, fun k _ _ => Int.le_refl _⟩
    · have hex : ∃ k : Int, 0 ≤ k ∧ k < b.length ∧ gp Q k < dueI b Q k := by
        refine Classical.byContradiction fun hno => hall fun k k0 k1 => ?_
        have := hs k k0 k1
        by_cases hc : gp Q k < dueI b Q k
        · exact (hno ⟨k, k0, k1, hc⟩).elim
        · omega
      obtain ⟨k, k0, k1, hlt⟩ := hex
      have hd := dueL_pay hb hp
      have hle : Below b Q (dueL b Q) := fun j j0 j1 => by rw [dueL_gp j0 j1]; exact hs j j0 j1
      have h1 := sumN_lt (n := b.length) (f := fun k => sumA (gh b k).2 - gp (dueL b Q) k) (g := fun k => sumA (gh b k).2 - gp Q k) k0 k1 (fun j j0 j1 => by have := hle j j0 j1; omega) (by show _ - gp (dueL b Q) k < _ - gp Q k; rw [dueL_gp k0 k1]; omega)
      have h2 : 0 ≤ sumN b.length (fun k => sumA (gh b k).2 - gp (dueL b Q) k) := sumN_nonneg fun j j0 j1 => by have := (hd.ge j j0 j1).2; omega
      obtain ⟨S, hS, hbS⟩ := ih (dueL b Q) (by omega) hd fun j j0 j1 => by
        rw [dueL_gp j0 j1]; exact due_mono hb hp hd hle j
      exact ⟨S, hS, fun j j0 j1 => Int.le_trans (hle j j0 j1) (hbS j j0 j1)⟩
theorem GreatS.sub (hb : GoodB b) (hG : GreatS b G) (hp : PayI b Q) (h : ∀ k : Int, 0 ≤ k → k < b.length → gp Q k ≤ dueI b Q k) : Below b Q G := by
  obtain ⟨S, hS, hle⟩ := sub_setl hb _ Q (Nat.le_refl _) hp h
  exact fun k k0 k1 => Int.le_trans (hle k k0 k1) (hG.ge S hS k k0 k1)
structure SameB (b c : List House) : Prop where
  len : c.length = b.length
  purse : ∀ k : Int, 0 ≤ k → k < b.length → (gh c k).1 = (gh b k).1
  debt : ∀ k : Int, 0 ≤ k → k < b.length → sumA (gh c k).2 = sumA (gh b k).2
  paid : ∀ j k p : Int, 0 ≤ j → j < b.length → 0 ≤ p → paidTo (gh c j).2 p k = paidTo (gh b j).2 p k
theorem SameB.pay (h : SameB b c) (hp : PayI b P) : PayI c P := ⟨by rw [h.len, hp.len], fun k k0 k1 => by
  rw [h.len] at k1; rw [h.debt k k0 k1]; exact hp.ge k k0 k1⟩
theorem SameB.recv (h : SameB b c) (hp : PayI b P) (k : Int) : recvH c P k = recvH b P k := by
  rw [recvH_eq k (h.pay hp).len, recvH_eq k hp.len, h.len]
  exact sumN_congr fun j j0 j1 => h.paid j k _ j0 j1 (hp.ge j j0 j1).1
theorem SameB.symm (h : SameB b c) : SameB c b := ⟨h.len.symm, fun k k0 k1 => (h.purse k k0 (by rw [← h.len]; exact k1)).symm, fun k k0 k1 => (h.debt k k0 (by rw [← h.len]; exact k1)).symm, fun j k p j0 j1 p0 => (h.paid j k p j0 (by rw [← h.len]; exact j1) p0).symm⟩
theorem SameB.setl (h : SameB b c) (hS : Setl b S) : Setl c S := ⟨h.pay hS.1, fun k k0 k1 => by
  rw [h.len] at k1
  have := hS.2 k k0 k1
  unfold dueI at this ⊢
  rw [h.debt k k0 k1, h.purse k k0 k1, h.recv hS.1]; exact this⟩
theorem SameB.below (h : SameB b c) (hle : Below b P Q) : Below c P Q := fun k k0 k1 => hle k k0 (by rw [← h.len]; exact k1)
theorem SameB.least (h : SameB b c) (hL : LeastS b L) : LeastS c L := ⟨h.setl hL.set, fun S hS => h.below (hL.le S (h.symm.setl hS))⟩
theorem SameB.great (h : SameB b c) (hG : GreatS b G) : GreatS c G := ⟨h.setl hG.set, fun S hS => h.below (hG.ge S (h.symm.setl hS))⟩
end
section
variable {b : List House} {o S T L G : List Int} {j k : Int}
structure Ord (n : Nat) (o : List Int) : Prop where
  len : o.length = n
  nd : o.Nodup
  rg : ∀ x ∈ o, 0 ≤ x ∧ x < (n : Int)
  all : ∀ x : Int, 0 ≤ x → x < n → x ∈ o
theorem Ord.of {n : Nat} (h : o.Perm (rgI 0 n)) : Ord n o := ⟨by have := h.length_eq; rwa [rgI_length] at this, h.nodup_iff.mpr ((rgI_pair _ _).imp fun {a b} z => by omega), fun x hx => by have := mem_rgI.mp (h.mem_iff.mp hx); omega, fun x h0 h1 => h.mem_iff.mpr (mem_rgI.mpr (by omega))⟩
theorem Ord.inj {n : Nat} (h : Ord n o) {i j : Int} (i0 : 0 ≤ i) (i1 : i < n) (j0 : 0 ≤ j) (j1 : j < n) (e : gp o i = gp o j) : i = j := by
  obtain ⟨i, rfl⟩ : ∃ m : Nat, i = (m : Int) := ⟨i.toNat, by omega⟩
  obtain ⟨j, rfl⟩ : ∃ m : Nat, j = (m : Int) := ⟨j.toNat, by omega⟩
  have hi : i < o.length := by rw [h.len]; omega
  have hj : j < o.length := by rw [h.len]; omega
  rw [gp_nat hi, gp_nat hj] at e
  have := nd_inj h.nd hi hj e
  omega
end
section
variable {b c : List House} {S T L G : List Int} {k i : Int}
theorem SameB.refl (b : List House) : SameB b b := ⟨rfl, fun _ _ _ => rfl, fun _ _ _ => rfl, fun _ _ _ _ _ _ => rfl⟩
end
section
variable {b c : List House} {S T L G P : List Int} {k i : Int}
section
variable {n : Nat} {s : Slip}
end
end
section
variable {b : List House} {S T L G : List Int}
end
abbrev TRow := List Int × Int × List Int
section
variable {b : List House} {ps w : List Int} {i : Int}
theorem ringsL_facts (hb : GoodB b) (hp : PayI b ps) (h : w ∈ ringsL b ps) : w ≠ [] ∧ w.length ≤ b.length ∧ (∀ x ∈ w, (0 ≤ x ∧ x < b.length) ∧ (nx b ps x).isSome = true) ∧ PayI b (moreL ps w (restL b ps w)) ∧ unp b (moreL ps w (restL b ps w)) + 1 ≤ unp b ps ∧ 1 ≤ restL b ps w ∧ restL b ps w ≤ 1000000000 := by
  obtain ⟨i, ⟨i0, i1⟩, e, _⟩ := mem_ringsL.mp h
  obtain ⟨w1, w2, w3⟩ := ringL_facts hb hp i0 i1 e
  have hpos := restL_pos hb hp i0 i1 e
  obtain ⟨o, ho, hoe⟩ := restL_mem (b := b) (ps := ps) (List.ne_nil_of_mem w1)
  obtain ⟨y, hy, hy2, hy3, hy4⟩ := restH_pos hb hp (w3 o ho).1.1 (w3 o ho).2
  refine ⟨List.ne_nil_of_mem w1, nodup_le (ringL_at e).ring.nd fun x hx => (w3 x hx).1, w3, ring_payI hb hp i0 i1 e (by omega) (Int.le_refl _), (paid_more hp w _).unp_full (by omega) (w3 o ho).1.1 (w3 o ho).1.2 ho hy (by omega), hpos⟩
structure RowOk (r : TRow) : Prop where
  ring : r.1.length ≤ 6
  nums : ∀ x ∈ r.1, 0 ≤ x ∧ x < 6
  am : 1 ≤ r.2.1 ∧ r.2.1 ≤ 1000000000
  bef : r.2.2.length ≤ 40
  befs : ∀ x ∈ r.2.2, 0 ≤ x ∧ x < 40
end
abbrev Pr := List Int × Int
def cl (S P : List Int) (a k : Int) : Int := max 0 (min a (gp S k - gp P k))
section
variable {b : List House} {S P T w : List Int}
inductive Greedy (b : List House) : List Int → List Pr → Prop where
  | nil {P : List Int} : ringsL b P = [] → Greedy b P []
  | cons {P w : List Int} {r : List Pr} : w ∈ ringsL b P → Greedy b (moreL P w (restL b P w)) r → Greedy b P ((w, restL b P w) :: r)
theorem ringsL_turn (hb : GoodB b) (hP : Setl b P) (hw : w ∈ ringsL b P) {a : Int} (a1 : 1 ≤ a) (a2 : a ≤ restL b P w) : Setl b (moreL P w a) := by
  obtain ⟨i, ⟨i0, i1⟩, e, _⟩ := mem_ringsL.mp hw
  exact turn_setl hb hP i0 i1 e (by omega) a2
def ChOk : List Pr → List Int → Prop
  | [], [] => True
  | (w, a) :: r, c :: cs => (0 ≤ c ∧ c ≤ a) ∧ (c < a → ∀ p ∈ r.zip cs, (∃ h ∈ w, h ∈ p.1.1) → p.2 = 0) ∧ ChOk r cs
  | _, _ => False
theorem ring_here (hb : GoodB b) (hP : Setl b P) (hT : Setl b T) (hw : w ∈ ringsL b P) (he : ∀ h ∈ w, gp T h = gp P h) : w ∈ ringsL b T ∧ restL b T w = restL b P w := by
  obtain ⟨i, ⟨i0, i1⟩, e, hd⟩ := mem_ringsL.mp hw
  obtain ⟨w1, w2, w3⟩ := ringL_facts hb hP.1 i0 i1 e
  have hh : ∀ h ∈ w, headH b T h = headH b P h := fun h hm => by unfold headH; rw [he h hm]
  have hn : ∀ h ∈ w, nx b T h = nx b P h := fun h hm => by unfold nx; rw [hh h hm]
  have R := ringL_at e
  refine ⟨mem_ringsL.mpr ⟨i, ⟨i0, i1⟩, ringL_of (nx_range hb hT.1) i0 i1 ⟨isRing_congr R.ring hn, R.mem, R.hd⟩, hd⟩, ?_⟩
  unfold restL
  congr 1
  refine List.map_congr_left fun h hm => ?_
  unfold restH; rw [hh h hm]
theorem more_zero (hl : T.length = n) : moreL T w 0 = T := by
  refine gp_ext (moreL_length _ _ _) fun k k0 k1 => ?_
  rw [moreL_length] at k1
  rw [moreL_gp k0 k1]; split <;> omega
structure Here (b : List House) (T P : List Int) (l : List Pr) (cs : List Int) : Prop where
  set : Setl b T
  le : ∀ k : Int, 0 ≤ k → k < b.length → gp T k ≤ gp P k
  eq : ∀ p ∈ l.zip cs, p.2 ≠ 0 → ∀ h ∈ p.1.1, gp T h = gp P h
theorem Here.step (hb : GoodB b) (hP : Setl b P) (hw : w ∈ ringsL b P) {r : List Pr} {c : Int} {cs : List Int} (H : Here b T P ((w, restL b P w) :: r) (c :: cs)) (hc : ChOk ((w, restL b P w) :: r) (c :: cs))
    (hin : ∀ q ∈ r, ∀ h ∈ q.1, 0 ≤ h ∧ h < (b.length : Int)) : Here b (moreL T w c) (moreL P w (restL b P w)) r cs := by
  obtain ⟨⟨c0, c1⟩, c2, c3⟩ := hc
  obtain ⟨h1, h2, h3, h4, h5, h6⟩ := ringsL_facts hb hP.1 hw
  have gT : ∀ k : Int, 0 ≤ k → k < b.length → gp (moreL T w c) k = gp T k + (if k ∈ w then c else 0) := fun k k0 k1 => moreL_gp k0 (by rw [H.set.1.len]; exact k1)
  have gP : ∀ k : Int, 0 ≤ k → k < b.length → gp (moreL P w (restL b P w)) k = gp P k + (if k ∈ w then restL b P w else 0) := fun k k0 k1 => moreL_gp k0 (by rw [hP.1.len]; exact k1)
  refine ⟨?_, fun k k0 k1 => ?_, fun p hp hn h hh => ?_⟩
  · by_cases hz : c = 0
    · rw [hz, more_zero rfl]; exact H.set
    · have := ring_here hb hP H.set hw (H.eq _ (by show _ ∈ (_ :: _); exact List.mem_cons_self) hz)
      exact ringsL_turn hb H.set this.1 (by omega) (by rw [this.2]; exact c1)
  · rw [gT k k0 k1, gP k k0 k1]
    have := H.le k k0 k1
    split <;> omega
  · have hr := hin p.1 (List.of_mem_zip hp).1 h hh
    have e0 := H.eq p (by show p ∈ (_ :: _); exact List.mem_cons_of_mem _ hp) hn h hh
    rw [gT h hr.1 hr.2, gP h hr.1 hr.2, e0]
    by_cases hm : h ∈ w
    · rw [if_pos hm, if_pos hm]
      by_cases hlt : c < restL b P w
      · exact (hn (c2 hlt p hp ⟨h, hm, hh⟩)).elim
      · omega
    · rw [if_neg hm, if_neg hm]
end
section
variable {b : List House} {P L : List Int}
structure ChI (R : List TRow) (c : List Int) : Prop where
  len : c.length = R.length
  rg : ∀ (j : Nat) r v, R[j]? = some r → c[j]? = some v → 0 ≤ v ∧ v ≤ r.2.1
  full : ∀ (j : Nat) r v, R[j]? = some r → c[j]? = some v → 0 < v → ∀ k ∈ r.2.2, ∃ (i : Nat) (q : TRow), k = (i : Int) ∧ R[i]? = some q ∧ c[i]? = some q.2.1
end
section
variable {b : List House} {P L S T w : List Int}
end
section
variable {b : List House} {P S S' T L w : List Int}
theorem join_to {σ : Type} {f : (σ → Prop) → Prop} {k : σ → Prop} (s : σ) (hk : k s) (h : ∀ K : σ → Prop, K s → f K) : joinP f k := h k hk
end
open _root_.TL
theorem tl_strI (n : Nat) : tl (strI (n : Int)) = numL n := tl_num n
theorem tl_cat2 (a b : Str) : tl (a ++ b) = tl a ++ tl b := tl_append a b
theorem tl_emp : tl Str.empty = [] := rfl
theorem catL_tl : ∀ (ys : List Str) (acc : Str), tl (catL acc ys) = tl acc ++ (ys.map tl).flatten
  | [], acc => by simp [catL]
  | y :: r, acc => by rw [catL, catL_tl r, tl_cat2, List.map_cons, List.flatten_cons, List.append_assoc]
theorem numL_head : ∀ n : Nat, 0 < n → ∃ c r, numL n = c :: r ∧ c ≠ 48 := by
  intro n
  induction n using Nat.strongRecOn with
  | _ n ih =>
    intro h
    by_cases h10 : n < 10
    · exact ⟨48 + n, [], numL_lt h10, by omega⟩
    · obtain ⟨c, r, e, hc⟩ := ih (n / 10) (by omega) (by omega)
      exact ⟨c, r ++ [48 + n % 10], by rw [numL_step (by omega), e]; rfl, hc⟩
theorem numL_dig {n c : Nat} (h : c ∈ numL n) : 48 ≤ c ∧ c ≤ 57 := by
  refine ⟨Nat.not_lt.mp fun z => numL_free (n := n) (s := c) (.inl z) h, Nat.not_lt.mp fun z => numL_free (n := n) (s := c) (.inr z) h⟩
theorem dig_mem {c : Nat} (h : 48 ≤ c ∧ c ≤ 57) : c ∈ ("0123456789" : Str).cps.toList := by
  have : ("0123456789" : Str).cps.toList = [48, 49, 50, 51, 52, 53, 54, 55, 56, 57] := by decide
  rw [this]
  simp only [List.mem_cons, List.not_mem_nil, or_false]
  omega
theorem numL_le13 {n : Nat} (h : n ≤ 1000000000000) : (numL n).length ≤ 13 := numL_len (by omega) (by omega)
theorem str_len (s : Str) : s.length = (tl s).length := len_tl s
theorem strI_len {i : Int} (h0 : 0 ≤ i) (h1 : i ≤ 1000000000000) : (strI i).length ≤ 13 := by
  obtain ⟨n, rfl⟩ : ∃ n : Nat, i = (n : Int) := ⟨i.toNat, by omega⟩
  rw [str_len, tl_strI]; exact numL_le13 (by omega)
theorem log_le {i : Int} (h0 : 0 ≤ i) (h1 : i ≤ 1000000000000) : i.natAbs.log2 < 1920 := by
  have h2 : i.natAbs ≤ 1000000000000 := by omega
  by_cases hz : i.natAbs = 0
  · rw [hz]; decide
  · refine Nat.lt_of_lt_of_le ((Nat.log2_lt hz).mpr (Nat.lt_of_le_of_lt h2 (by decide : 1000000000000 < 2 ^ 60))) (by omega)
def slipT (s : Slip) : Str := catL Str.empty [strI s.1, ("-" : Str), strI s.2]
def pileT (ss : List Slip) : Str := Txt.join ("," : Str) (ss.map slipT)
def houseT (h : House) : Str := catL Str.empty [strI h.1, (":" : Str)] ++ pileT h.2
def bookT (b : List House) : Str := Txt.join (" " : Str) (b.map houseT)
def payT (ps : List Int) : Str := Txt.join (" " : Str) (ps.map strI)
theorem tl_dash : tl ("-" : Str) = [45] := by decide
theorem tl_colon : tl (":" : Str) = [58] := by decide
theorem tl_comma : tl ("," : Str) = [44] := by decide
theorem tl_blank : tl (" " : Str) = [32] := by decide
def NumOk (i : Int) : Prop := 0 ≤ i ∧ i ≤ 1000000000000
theorem NumOk.nat {i : Int} (h : NumOk i) : ∃ n : Nat, i = (n : Int) ∧ n ≤ 1000000000000 ∧ tl (strI i) = numL n := by
  have h1 := h.1
  have h2 := h.2
  obtain ⟨n, rfl⟩ : ∃ n : Nat, i = (n : Int) := ⟨i.toNat, by omega⟩
  exact ⟨n, rfl, by omega, tl_strI n⟩
theorem NumOk.free {i : Int} (h : NumOk i) {s : Nat} (hs : s < 48 ∨ 57 < s) : s ∉ tl (strI i) := by
  obtain ⟨n, _, _, e⟩ := h.nat
  rw [e]; exact numL_free hs
theorem NumOk.ne {i : Int} (h : NumOk i) : tl (strI i) ≠ [] := by
  obtain ⟨n, _, _, e⟩ := h.nat
  rw [e]; exact numL_ne n
theorem tl_slipT (s : Slip) : tl (slipT s) = tl (strI s.1) ++ 45 :: tl (strI s.2) := by
  unfold slipT
  rw [catL_tl, tl_emp]
  simp only [List.map_cons, List.map_nil, List.flatten_cons, List.flatten_nil, tl_dash]
  simp
theorem tl_houseT (h : House) : tl (houseT h) = tl (strI h.1) ++ 58 :: tl (pileT h.2) := by
  unfold houseT
  rw [tl_cat2, catL_tl, tl_emp]
  simp only [List.map_cons, List.map_nil, List.flatten_cons, List.flatten_nil, tl_colon]
  simp
theorem tl_joinT (y : Str) (ps : List Str) : tl (Txt.join y ps) = joinL (tl y) (ps.map tl) := by rw [join_eq, tl_join]
def SlOk' (s : Slip) : Prop := NumOk s.1 ∧ NumOk s.2
def HsOk (h : House) : Prop := NumOk h.1 ∧ h.2.length ≤ 6 ∧ ∀ s ∈ h.2, SlOk' s
theorem slipT_free {s : Slip} (h : SlOk' s) {c : Nat} (hc : c = 32 ∨ c = 44 ∨ c = 58) : c ∉ tl (slipT s) := by
  rw [tl_slipT, List.mem_append, List.mem_cons]
  rintro (z | z | z)
  · exact h.1.free (by omega) z
  · omega
  · exact h.2.free (by omega) z
theorem joinL_free {S : List Nat} {c : Nat} (hS : c ∉ S) : ∀ {ps : List (List Nat)}, (∀ p ∈ ps, c ∉ p) → c ∉ joinL S ps
  | [], _ => by simp [joinL]
  | [p], h => by simpa [joinL] using h p (by simp)
  | p :: q :: r, h => by
    have ih := joinL_free hS (ps := q :: r) fun x hx => h x (List.mem_cons_of_mem _ hx)
    rw [joinL, List.mem_append, List.mem_append]
    rintro (z | z | z)
    · exact h p (by simp) z
    · exact hS z
    · exact ih z
theorem pileT_free {ss : List Slip} (h : ∀ s ∈ ss, SlOk' s) {c : Nat} (hc : c = 32 ∨ c = 58) : c ∉ tl (pileT ss) := by
  unfold pileT
  rw [tl_joinT, tl_comma]
  refine joinL_free (by simp; omega) fun p hp => ?_
  rw [List.map_map] at hp
  obtain ⟨s, hs, rfl⟩ := List.mem_map.mp hp
  exact slipT_free (h s hs) (by omega)
theorem houseT_free {h : House} (ho : HsOk h) : 32 ∉ tl (houseT h) := by
  rw [tl_houseT, List.mem_append, List.mem_cons]
  rintro (z | z | z)
  · exact ho.1.free (by omega) z
  · omega
  · exact pileT_free ho.2.2 (.inl rfl) z
theorem slipT_len {s : Slip} (h : SlOk' s) : (slipT s).length ≤ 27 := by
  have h1 := strI_len h.1.1 h.1.2
  have h2 := strI_len h.2.1 h.2.2
  rw [str_len] at h1 h2
  rw [str_len, tl_slipT, List.length_append, List.length_cons]; omega
theorem sum_len_le {α : Type} {xs : List α} {f : α → Str} {k : Nat} (h : ∀ x ∈ xs, (f x).length ≤ k) : ((xs.map f).map (·.length)).sum ≤ xs.length * k := by
  induction xs with
  | nil => simp
  | cons x r ih =>
    have h1 := h x (by simp)
    have h2 := ih fun y hy => h y (List.mem_cons_of_mem _ hy)
    simp only [List.map_cons, List.sum_cons, List.length_cons, Nat.succ_mul]
    omega
theorem joinL_len {S : List Nat} : ∀ {ps : List (List Nat)} {k : Nat}, (∀ p ∈ ps, p.length ≤ k) → (joinL S ps).length ≤ ps.length * (k + S.length)
  | [], _, _ => by simp [joinL]
  | [p], k, h => by
    have := h p (by simp)
    simp only [joinL, List.length_singleton, Nat.one_mul]; omega
  | p :: q :: r, k, h => by
    have h1 := h p (by simp)
    have ih := joinL_len (S := S) (ps := q :: r) fun x hx => h x (List.mem_cons_of_mem _ hx)
    rw [joinL, List.length_append, List.length_append]
    simp only [List.length_cons, Nat.succ_mul] at ih ⊢
    omega
theorem join_len {y : Str} {α : Type} {xs : List α} {f : α → Str} {k : Nat} (h : ∀ x ∈ xs, (f x).length ≤ k) : (Txt.join y (xs.map f)).length ≤ xs.length * (k + y.length) := by
  rw [str_len, tl_joinT, str_len y]
  have := joinL_len (S := tl y) (ps := (xs.map f).map tl) (k := k) fun p hp => by
    rw [List.map_map] at hp
    obtain ⟨x, hx, rfl⟩ := List.mem_map.mp hp
    have := h x hx
    rw [str_len] at this; exact this
  simpa using this
theorem pileT_len {ss : List Slip} (hl : ss.length ≤ 6) (h : ∀ s ∈ ss, SlOk' s) : (pileT ss).length ≤ 168 := by
  have := join_len (y := ("," : Str)) (f := slipT) fun s hs => slipT_len (h s hs)
  have e : ("," : Str).length = 1 := by decide
  rw [e] at this
  unfold pileT; omega
theorem houseT_len {h : House} (ho : HsOk h) : (houseT h).length ≤ 182 := by
  have h1 := strI_len ho.1.1 ho.1.2
  have h2 := pileT_len ho.2.1 ho.2.2
  rw [str_len] at h1 h2
  rw [str_len, tl_houseT, List.length_append, List.length_cons]; omega
theorem bookT_len {b : List House} (hl : b.length ≤ 6) (h : ∀ x ∈ b, HsOk x) : (bookT b).length ≤ 1098 := by
  have := join_len (y := (" " : Str)) (f := houseT) fun x hx => houseT_len (h x hx)
  have e : (" " : Str).length = 1 := by decide
  rw [e] at this
  unfold bookT; omega
theorem payT_len {ps : List Int} (hl : ps.length ≤ 6) (h : ∀ x ∈ ps, NumOk x) : (payT ps).length ≤ 84 := by
  have := join_len (y := (" " : Str)) (f := strI) fun x hx => strI_len (h x hx).1 (h x hx).2
  have e : (" " : Str).length = 1 := by decide
  rw [e] at this
  unfold payT; omega
theorem split_T {y : Str} {c : Nat} (ey : tl y = [c]) (hk : y.cps.all (· < 256) = true) {parts : List Str} (hne : parts ≠ []) (hp : ∀ p ∈ parts, c ∉ tl p) : Txt.split (Txt.join y parts) y = parts := by
  have := split_join ey hk hne hp
  simpa [join_eq] using this
theorem split_bookT {b : List House} (hb : b ≠ []) (h : ∀ x ∈ b, HsOk x) : Txt.split (bookT b) (" " : Str) = b.map houseT :=
  split_T tl_blank (by decide +kernel) (by simpa using hb) fun p hp => by
    obtain ⟨x, hx, rfl⟩ := List.mem_map.mp hp
    exact houseT_free (h x hx)
theorem houseT_join (h : House) : houseT h = Txt.join (":" : Str) [strI h.1, pileT h.2] := ext_tl (by rw [tl_houseT, tl_joinT, tl_colon]; simp [joinL])
theorem slipT_join (s : Slip) : slipT s = Txt.join ("-" : Str) [strI s.1, strI s.2] := ext_tl (by rw [tl_slipT, tl_joinT, tl_dash]; simp [joinL])
theorem split_houseT {h : House} (ho : HsOk h) : Txt.split (houseT h) (":" : Str) = [strI h.1, pileT h.2] := by
  rw [houseT_join]
  refine split_T tl_colon (by decide +kernel) (by simp) fun p hp => ?_
  simp only [List.mem_cons, List.not_mem_nil, or_false] at hp
  rcases hp with rfl | rfl
  · exact ho.1.free (by omega)
  · exact pileT_free ho.2.2 (.inr rfl)
theorem split_slipT {s : Slip} (h : SlOk' s) : Txt.split (slipT s) ("-" : Str) = [strI s.1, strI s.2] := by
  rw [slipT_join]
  refine split_T tl_dash (by decide +kernel) (by simp) fun p hp => ?_
  simp only [List.mem_cons, List.not_mem_nil, or_false] at hp
  rcases hp with rfl | rfl
  · exact h.1.free (by omega)
  · exact h.2.free (by omega)
theorem split_pileT {ss : List Slip} (hne : ss ≠ []) (h : ∀ s ∈ ss, SlOk' s) : Txt.split (pileT ss) ("," : Str) = ss.map slipT :=
  split_T tl_comma (by decide +kernel) (by simpa using hne) fun p hp => by
    obtain ⟨x, hx, rfl⟩ := List.mem_map.mp hp
    exact slipT_free (h x hx) (by omega)
theorem joinL_ne {S : List Nat} : ∀ {ps : List (List Nat)}, ps ≠ [] → (∀ p ∈ ps, p ≠ []) → joinL S ps ≠ []
  | [], h, _ => (h rfl).elim
  | [p], _, h => by simpa [joinL] using h p (by simp)
  | p :: q :: r, _, h => by
    have h1 := h p (by simp)
    rw [joinL]
    intro z
    simp only [List.append_eq_nil_iff] at z
    exact h1 z.1
theorem str_emp {s : Str} : s = ("" : Str) ↔ tl s = [] := by
  have e : tl ("" : Str) = [] := by decide
  exact ⟨fun h => by rw [h, e], fun h => ext_tl (by rw [h, e])⟩
theorem pileT_emp {ss : List Slip} (h : ∀ s ∈ ss, SlOk' s) : (pileT ss = ("" : Str)) ↔ ss = [] := by
  rw [str_emp]
  unfold pileT
  rw [tl_joinT]
  constructor
  · intro z
    by_cases hs : ss = []
    · exact hs
    · refine (joinL_ne (by simpa using hs) (fun p hp => ?_) z).elim
      rw [List.map_map] at hp
      obtain ⟨s, hs, rfl⟩ := List.mem_map.mp hp
      show tl (slipT s) ≠ []
      rw [tl_slipT]; simp
  · rintro rfl; rfl
end Dl
namespace Dl
open PySem PySem.Spec PyProof.Rows L2
theorem int_core (v : D) (lo hi : Int) {Q : Bool → Prop} (h : Q (wholeD v lo hi)) : (if isT "int" (eA v) = true then (if (!(isT "bool" (eA v))) = true then ∃ y, v = eI y ∧ (if decide (lo ≤ y) = true then Q (decide (y ≤ hi)) else Q false) else Q false) else Q false) := by
  simp only [isT_int, isT_bool]
  cases v with
  | it i =>
    simp only [isInt, isBool, if_true, Bool.not_false]
    refine ⟨i, rfl, ?_⟩
    simp only [wholeD] at h
    by_cases h1 : lo ≤ i
    · simpa only [h1, decide_true, Bool.true_and, if_true] using h
    · simp only [h1, decide_false, Bool.false_and] at h
      rw [if_neg (by simpa using h1)]; exact h
  | _ => simpa [isInt, isBool, wholeD] using h
theorem F_is_integer (v : D) (lo hi : Int) {Q : Bool → Prop} {E : EK} (h : Q (wholeD v lo hi)) : t_is_integer v lo hi Q E := int_core v lo hi h
theorem F_debt_of {ss : List Slip} (hl : ss.length ≤ 1000) {Q : Int → Prop} {E : EK} (h : Q (sumA ss)) : t_debt_of ss Q E := by
  simp only [t_debt_of, eqB, inB, bindP, bindW_d, pureW_d, ifW_d, ifP, joinP, lenW, lenA, lenS, sameW, addI, subI, mulI, fdivI, modI, powI, ltI, leI, gtI, geI, eqI, neI, catW, catS, repT, repL, szW, appP, ixW, ixA, getW, asW, lcW, rng1W, rng2W, eqW, neW, eqA, neA, isW, isNW, inW, niW, inA, niA, min2, max2, minL, maxL, sumW, absI, intB, anyW, allW, reprW, setixP, augixP, failW, extP, popP, idxW, strW, lrgW, sortW, decide_eq_true_eq, Bool.not_eq_true', Bool.not_eq_eq_eq_not, Bool.not_true, Bool.not_false, decide_eq_false_iff_not, ite_true, ite_false, if_true, if_false, Bool.false_eq_true, true_and, and_true, reduceIte, not_true_eq_false, not_false_eq_true, szOk_small, Nat.reduceAdd, Nat.reduceLeDiff, Nat.zero_add, Int.reduceLT, Int.reduceLE, Int.reduceAdd, Int.reduceMul, Int.reduceNeg, List.length_cons, List.length_nil, List.length_append, List.length_map]
  exact lc_map (fun s : Slip => s.2) (by omega) (fun x _ Y h => h) h
theorem F_debts {b : List House} (hb : OkBook b) {Q : List Int → Prop} {E : EK} (h : Q (debtsL b)) : t_debts b Q E := by
  simp only [t_debts, eqB, inB, bindP, bindW_d, pureW_d, ifW_d, ifP, joinP, lenW, lenA, lenS, sameW, addI, subI, mulI, fdivI, modI, powI, ltI, leI, gtI, geI, eqI, neI, catW, catS, repT, repL, szW, appP, ixW, ixA, getW, asW, lcW, rng1W, rng2W, eqW, neW, eqA, neA, isW, isNW, inW, niW, inA, niA, min2, max2, minL, maxL, sumW, absI, intB, anyW, allW, reprW, setixP, augixP, failW, extP, popP, idxW, strW, lrgW, sortW, decide_eq_true_eq, Bool.not_eq_true', Bool.not_eq_eq_eq_not, Bool.not_true, Bool.not_false, decide_eq_false_iff_not, ite_true, ite_false, if_true, if_false, Bool.false_eq_true, true_and, and_true, reduceIte, not_true_eq_false, not_false_eq_true, szOk_small, Nat.reduceAdd, Nat.reduceLeDiff, Nat.zero_add, Int.reduceLT, Int.reduceLE, Int.reduceAdd, Int.reduceMul, Int.reduceNeg, List.length_cons, List.length_nil, List.length_append, List.length_map]
  have := hb.len
  exact lc_map (fun h : House => sumA h.2) (by omega) (fun x hx Y h => F_debt_of (by have := (hb.pile x hx).len; omega) h) h
theorem draw_in {u : Unit} {m : Int} {Q : Int → Prop} {E : EK} (h0 : 0 < m) (h1 : m ≤ 1000000000000000000) (h : ∀ r, 0 ≤ r → r < m → Q r) : t__law_draw u m Q E :=
  ⟨⟨h0, Int.lt_of_le_of_lt h1 (by decide)⟩, h⟩
theorem one_in {α : Type} {u : Unit} {xs : List α} {Q : α → Prop} {E : EK} (h0 : xs ≠ []) (h1 : xs.length ≤ 1000) (h : ∀ y ∈ xs, Q y) : t__law_one u xs Q E := ⟨⟨h0, h1⟩, h⟩
theorem F__law_debts {b : List House} (hb : OkBook b) {Q : List Int → Prop} {E : EK} (h : Q (debtsL b)) : t__law_debts b Q E := by
  unfold t__law_debts
  have := hb.len
  refine lc_map (fun h : House => sumA h.2) (by omega) (fun x hx Y h => ?_) h
  exact lc_map (fun s : Slip => s.2) (by have := (hb.pile x hx).len; omega) (fun _ _ _ h => h) h
theorem F__law_pile (u : Unit) {own many size wide : Int} (hm : 0 < many) (hm6 : many ≤ 6) (ho : 0 ≤ own ∧ own < many) (hs : 0 ≤ size ∧ size ≤ 6) (hw : 0 < wide ∧ wide ≤ 1000000000) {Q : List Slip → Prop} {E : EK} (h : ∀ ss : List Slip, (ss.length : Int) ≤ size → (∀ y ∈ ss, (0 ≤ y.1 ∧ y.1 < many) ∧ y.1 ≠ own ∧ 1 ≤ y.2 ∧ y.2 ≤ wide) → Q ss) : t__law_pile u own many size wide Q E := by
  unfold t__law_pile
  refine ⟨szle (by omega), draw_in (by omega) (by omega) (fun r r0 r1 => ⟨.inr (by split <;> omega), ?_⟩)⟩
  generalize hk : r * (if decide ((1 : Int) < many) = true then 1 else 0 : Int) = q
  have hk' : 0 ≤ q ∧ q ≤ size ∧ (0 < q → 1 < many) := by
    subst hk
    by_cases z : (1 : Int) < many
    · rw [if_pos (by simpa using z)]; omega
    · rw [if_neg (by simpa using z)]; omega
  refine ⟨in62_of (by omega) (by omega), forP_ix (fun j y => y.length = j ∧ ∀ z ∈ y, (0 ≤ z.1 ∧ z.1 < many) ∧ z.1 ≠ own ∧ 1 ≤ z.2 ∧ z.2 ≤ wide) ⟨rfl, by simp⟩ (fun y hy => h y (by have := hy.1; rw [rgI_length] at this; omega) hy.2) (fun j z y hz hy N2 k2 => ?_)⟩
  have hj := (rgI_get hz).2
  refine draw_in (by omega) (by omega) (fun r6 f0 f1 => ⟨szle (by omega), one_in (by simp) (by simp) (fun v hv => ⟨by omega, draw_in (by omega) (by omega) (fun r8 l0 l1 => ⟨szlt (by omega), k2 _ ⟨by simp [hy.1], fun w hw => ?_⟩⟩)⟩)⟩)
  rcases List.mem_append.mp hw with hw | hw
  · exact hy.2 w hw
  · rw [List.mem_singleton] at hw; subst hw
    have hv' : 0 ≤ v ∧ v < many - 1 := by simp only [List.mem_cons, List.not_mem_nil, or_false] at hv; omega
    have := mod_ne (h := own) (d := 1 + v) (n := many) (by omega) (by omega) (by omega) (by omega)
    rw [show own + 1 + v = own + (1 + v) by omega]
    exact ⟨⟨this.1, this.2.1⟩, this.2.2, by show 1 ≤ 1 + r8; omega, by show 1 + r8 ≤ wide; omega⟩
theorem F__law_book (u : Unit) {most size wide : Int} (hm : 0 < most ∧ most ≤ 6) (hs : 0 ≤ size ∧ size ≤ 6) (hw : 0 < wide ∧ wide ≤ 1000000000) {Q : List House → Prop} {E : EK} (h : ∀ b, GoodB b → (b.length : Int) ≤ most → (∀ (i : Nat) x, b[i]? = some x → HOk b.length i size wide x) → (∀ x ∈ b, x.1 ≤ wide) → Q b) : t__law_book u most size wide Q E := by
  unfold t__law_book
  refine draw_in (by omega) (by omega) (fun r r0 r1 => ⟨in62_of (by omega) (by omega), ?_⟩)
  have en : (((1 : Int) + r).toNat : Int) = 1 + r := by omega
  refine lc_rel (fun _ y => 0 ≤ y ∧ y ≤ wide) (by rw [rgI_length]; omega) (fun x hx Y hY => ?_) fun purses hp => ?_
  · refine draw_in (by omega) (by omega) (fun d d0 d1 => ⟨szle (by omega), one_in (by simp) (by simp) (fun y hy => hY y ?_)⟩)
    simp only [List.mem_cons, List.not_mem_nil, or_false] at hy; omega
  · have hpl := hp.length
    rw [rgI_length] at hpl
    refine ⟨in62_of (by omega) (by omega), ?_⟩
    refine lc_rel (fun x y => HOk (1 + r) x size wide y ∧ y.1 ≤ wide) (by rw [rgI_length]; omega) (fun x hx Y hY => ?_) fun b hb => ?_
    · rw [mem_rgI] at hx
      obtain ⟨y, e1, e2⟩ := atI_mem (xs := purses) (r := x) (by omega) (by omega)
      obtain ⟨_, _, q⟩ := hp.mem _ e2
      exact ⟨y, e1, F__law_pile u (by omega) (by omega) ⟨by omega, by omega⟩ hs hw fun ss h1 h2 => hY _ ⟨⟨q.1, by show y ≤ _; omega, h1, h2⟩, q.2⟩⟩
    · have hbl := hb.length
      rw [rgI_length] at hbl
      have e : (b.length : Int) = 1 + r := by omega
      have hk : ∀ (i : Nat) x, b[i]? = some x → HOk (1 + r) i size wide x := fun i x hx => by
        obtain ⟨z, hz, q, _⟩ := hb.get hx
        have := (rgI_get hz).1
        rw [show z = (i : Int) by omega] at q; exact q
      exact h b (goodB_of e (by omega) (by omega) (by omega) (by omega) hk) (by omega) (by rw [e]; exact hk) fun x hx => by obtain ⟨_, _, q⟩ := hb.mem x hx; exact q.2
theorem F__law_payments {b : List House} (hb : OkBook b) (u : Unit) {Q : List Int → Prop} {E : EK} (h : ∀ ps, PayOf b ps → Q ps) : t__law_payments u b Q E := by
  simp only [t__law_payments, eqB, inB, bindP, bindW_d, pureW_d, ifW_d, ifP, joinP, lenW, lenA, lenS, sameW, addI, subI, mulI, fdivI, modI, powI, ltI, leI, gtI, geI, eqI, neI, catW, catS, repT, repL, szW, appP, ixW, ixA, getW, asW, lcW, rng1W, rng2W, eqW, neW, eqA, neA, isW, isNW, inW, niW, inA, niA, min2, max2, minL, maxL, sumW, absI, intB, anyW, allW, reprW, setixP, augixP, failW, extP, popP, idxW, strW, lrgW, sortW, decide_eq_true_eq, Bool.not_eq_true', Bool.not_eq_eq_eq_not, Bool.not_true, Bool.not_false, decide_eq_false_iff_not, ite_true, ite_false, if_true, if_false, Bool.false_eq_true, true_and, and_true, reduceIte, not_true_eq_false, not_false_eq_true, szOk_small, Nat.reduceAdd, Nat.reduceLeDiff, Nat.zero_add, Int.reduceLT, Int.reduceLE, Int.reduceAdd, Int.reduceMul, Int.reduceNeg, List.length_cons, List.length_nil, List.length_append, List.length_map, t__law_draw, t__law_one]
  have hbl := hb.len
  refine forP_ind (fun r s => s.length + r.length ≤ 6 ∧ (∀ x ∈ r, x ∈ b) ∧ ∀ ps, PayOf r ps → Q (s ++ ps)) (fun s k => by simpa using k.2.2 [] trivial) (fun x r s k N kn => ?_) _ _ ⟨by simpa using hbl, fun x h => h, by simpa using h⟩
  obtain ⟨k1, k2, k3⟩ := k
  simp only [List.length_cons] at k1
  have hx := k2 x (by simp)
  have hp := hb.pile x hx
  have hl := hp.len
  have hs0 := sumA_nonneg (ss := x.2) hp.am
  refine ⟨in62_of (by omega) (by omega), ?_⟩
  refine lc_map (fun k : Int => sumA (x.2.take (k + 1).toNat)) (by rw [rgI_length]; omega) (fun k hk Y hY => ?_) ?_
  · rw [mem_rgI] at hk
    rw [cutT_to _ _ (by omega)]
    exact lc_map (fun s : Slip => s.2) (by rw [List.length_take]; omega) (fun _ _ _ h => h) hY
  · generalize he : [(0 : Int)] ++ (rgI 0 ((x.2.length : Nat) : Int).toNat).map (fun k : Int => sumA (x.2.take (k + 1).toNat)) = ends
    have hlen : ends.length = 1 + x.2.length := by rw [← he]; simp [rgI_length]; omega
    have hb0 : ∀ y ∈ ends, 0 ≤ y ∧ y ≤ sumA x.2 := by
      intro y hy
      rw [← he] at hy
      rcases List.mem_append.mp hy with hy | hy
      · rw [List.mem_singleton] at hy; omega
      · obtain ⟨k, hk, rfl⟩ := List.mem_map.mp hy
        have s1 := sumA_nonneg (ss := x.2.take (k + 1).toNat) fun z hz => hp.am z (List.mem_of_mem_take hz)
        have s2 := sumA_nonneg (ss := x.2.drop (k + 1).toNat) fun z hz => hp.am z (List.mem_of_mem_drop hz)
        have s3 := sumA_append (x.2.take (k + 1).toNat) (x.2.drop (k + 1).toNat)
        rw [List.take_append_drop] at s3
        omega
    have hlast : atI ends (-1) = some (sumA x.2) := by
      rw [atI_neg1, ← he]
      cases hn : x.2.length with
      | zero => rw [List.length_eq_zero_iff.mp hn]; rfl
      | succ n =>
        have : (rgI 0 ((n + 1 : Nat) : Int).toNat) = rgI 0 n ++ [(n : Int)] := by
          unfold rgI
          rw [show ((n + 1 : Nat) : Int).toNat = n + 1 by omega, List.range_succ, List.map_append]; simp
        rw [this, List.map_append, ← List.append_assoc]
        simp only [List.map_cons, List.map_nil, List.getLast?_append, List.getLast?_singleton, Option.some_or]
        rw [show ((n : Int) + 1).toNat = n + 1 by omega, List.take_of_length_le (by omega)]
    have ne : ends ≠ [] := fun z => by rw [z, List.length_nil] at hlen; omega
    have hml : ((rgI 0 ((x.2.length : Nat) : Int).toNat).map (fun k : Int => sumA (x.2.take (k + 1).toNat))).length ≤ 6 := by rw [List.length_map, rgI_length]; omega
    refine ⟨szle (by omega), ⟨ne, by omega⟩, fun a ha => ⟨⟨ne, by omega⟩, fun c hc => ⟨⟨ne, by omega⟩, fun d hd => ⟨_, hlast, ⟨by omega, by omega⟩, fun u u0 u1 => ?_⟩⟩⟩⟩
    have a0 := hb0 a ha; have c0 := hb0 c hc; have d0 := hb0 d hd
    refine ⟨by simp, fun y hy => ⟨_, hlast, szlt (by omega), kn _ ⟨by simp; omega, fun z hz => k2 z (List.mem_cons_of_mem _ hz), fun ps hps => ?_⟩⟩⟩
    rw [List.append_assoc]
    exact k3 (_ :: ps) ⟨by omega, by omega, hps⟩
open _root_.TL
theorem lcP_map2 {α β γ : Type} {h : α → W β} {E : EK} (f : γ → α) (g : γ → β) : ∀ (xs : List γ) (acc : List β) {Q : List β → Prop}, (∀ x ∈ xs, ∀ Y : β → Prop, Y (g x) → h (f x) Y E) → Q (acc ++ xs.map g) → lcP (fun _ Q' _ => Q' true) h E (xs.map f) acc Q
  | [], acc, Q, _, k => by simpa [lcP] using k
  | x :: xs, acc, Q, hh, k => by
    show h (f x) _ E
    refine hh x (by simp) _ (lcP_map2 f g xs _ (fun y hy => hh y (List.mem_cons_of_mem _ hy)) (by simpa using k))
theorem lc_map2 {α β γ : Type} {h : α → W β} (f : γ → α) (g : γ → β) {xs : List γ} {Q : List β → Prop} (hl : xs.length ≤ 16000000) (hh : ∀ x ∈ xs, ∀ Y : β → Prop, Y (g x) → h (f x) Y (fun _ => False)) (k : Q (xs.map g)) :
    (xs.map f).length ≤ sizeLine ∧ lcP (fun _ Q' _ => Q' true) h (fun _ => False) (xs.map f) [] Q := ⟨szle' (by rw [List.length_map]; exact hl), lcP_map2 f g xs [] hh (by simpa using k)⟩
theorem sgn_one (c : Nat) : sgn (⟨#[c]⟩ : Str) = some c := rfl
theorem okB_hs {b : List House} (hb : OkBook b) : ∀ x ∈ b, HsOk x := fun x hx => by
  have h1 := hb.purse x hx
  have h2 := hb.pile x hx
  have h3 := hb.len
  exact ⟨⟨by omega, by omega⟩, h2.len, fun s hs => ⟨by have := h2.to s hs; exact ⟨by omega, by omega⟩, by have := h2.am s hs; exact ⟨by omega, by omega⟩⟩⟩
theorem F_number_in {i : Int} (h : NumOk i) {Q : Option Int → Prop} {E : EK} (k : Q (some i)) : t_number_in (strI i) Q E := by
  have hl := strI_len h.1 h.2
  obtain ⟨n, rfl, hn, et⟩ := h.nat
  have hl' : (strI (n : Int)).length = (numL n).length := by rw [str_len, et]
  have hp : 1 ≤ (strI (n : Int)).length := by
    rw [hl']
    exact List.length_pos_iff.mpr (numL_ne n)
  have e0 : (strI (n : Int)).cps.toList = numL n := et
  unfold t_number_in
  refine ⟨szle (by omega), ?_⟩
  rw [if_pos (decide_eq_true (by omega)), if_neg (by simp; omega)]
  refine lc_map (fun _ => true) (by unfold sgns; rw [e0, List.length_map]; omega) (fun a ha Y hY => ?_) ?_
  · unfold sgns at ha
    rw [e0] at ha
    obtain ⟨c, hc, rfl⟩ := List.mem_map.mp ha
    refine ⟨c, sgn_one c, ?_⟩
    rw [decide_eq_true (dig_mem (numL_dig hc))]; exact hY
  · rw [if_neg (by simp)]
    have hi : ∃ m, (PySem.intText? (strI (n : Int)) = some m ∧ (strI (n : Int)).length ≤ 640) ∧ Q (some m) := ⟨_, ⟨int_num (by omega), by omega⟩, k⟩
    have hz : szOk (strI (n : Int)).length := szle (by omega)
    by_cases h0 : n = 0
    · subst h0
      have e1 : strI (((0 : Nat) : Int)) = ("0" : Str) := by decide
      refine ⟨48, ⟨hz, by rw [e0]; decide⟩, ?_⟩
      rw [if_pos (by rw [eqB_iff]; decide), if_neg (by rw [e1]; decide)]
      exact hi
    · obtain ⟨c, r, e1, hc⟩ := numL_head n (by omega)
      refine ⟨c, ⟨hz, by rw [e0, e1]; exact atI_nat (j := 0) rfl⟩, ?_⟩
      rw [if_neg]
      · exact hi
      · rw [eqB_iff]
        intro z
        have z' : tl (⟨#[c]⟩ : Str) = tl ("0" : Str) := by rw [z]
        have e2 : tl ("0" : Str) = [48] := by decide
        rw [e2] at z'
        have : [c] = [48] := z'
        simp only [List.cons.injEq, and_true] at this
        exact hc this
theorem whole_some {i lo hi : Int} (h0 : lo ≤ i) (h1 : i ≤ hi) : wholeD (eO eI (some i)) lo hi = true := by
  show wholeD (.it i) lo hi = true
  simp [wholeD, h0, h1]
theorem F_slip_text {s : Slip} (h : SlOk' s) {Q : Str → Prop} {E : EK} (k : Q (slipT s)) : t_slip_text s Q E := by
  have h1 := strI_len h.1.1 h.1.2
  have h2 := strI_len h.2.1 h.2.2
  unfold t_slip_text
  exact ⟨log_le h.1.1 h.1.2, by omega, by decide, log_le h.2.1 h.2.2, by omega, k⟩
theorem F_house_text {x : House} (h : HsOk x) {Q : Str → Prop} {E : EK} (k : Q (houseT x)) : t_house_text x Q E := by
  have h1 := strI_len h.1.1 h.1.2
  have h2 := h.2.1
  have h3 := pileT_len h.2.1 h.2.2
  have h4 := houseT_len h
  have e1 : ("," : Str).length = 1 := by decide
  have h5 : ((x.2.map slipT).map (·.length)).sum ≤ x.2.length * 27 := sum_len_le fun s hs => slipT_len (h.2.2 s hs)
  unfold t_house_text
  refine ⟨log_le h.1.1 h.1.2, by omega, by decide, lc_map slipT (by omega) (fun s hs Y hY => F_slip_text (h.2.2 s hs) hY) ⟨by rw [e1, List.length_map]; omega, ?_, k⟩⟩
  show szOk ((catL Str.empty [strI x.1, (":" : Str)]).length + (pileT x.2).length)
  have e2 : (houseT x).length = (catL Str.empty [strI x.1, (":" : Str)]).length + (pileT x.2).length := len_app _ _
  exact szle (by omega)
theorem F_book_text {b : List House} (hl : b.length ≤ 6) (h : ∀ x ∈ b, HsOk x) {Q : Str → Prop} {E : EK} (k : Q (bookT b)) : t_book_text b Q E := by
  have e1 : (" " : Str).length = 1 := by decide
  have h5 : ((b.map houseT).map (·.length)).sum ≤ b.length * 182 := sum_len_le fun s hs => houseT_len (h s hs)
  unfold t_book_text
  exact lc_map houseT (by omega) (fun x hx Y hY => F_house_text (h x hx) hY) ⟨by rw [e1, List.length_map]; omega, k⟩
theorem F_payments_text {ps : List Int} (hl : ps.length ≤ 6) (h : ∀ x ∈ ps, NumOk x) {Q : Str → Prop} {E : EK} (k : Q (payT ps)) : t_payments_text ps Q E := by
  have e1 : (" " : Str).length = 1 := by decide
  have h5 : ((ps.map strI).map (·.length)).sum ≤ ps.length * 13 := sum_len_le fun s hs => strI_len (h s hs).1 (h s hs).2
  unfold t_payments_text
  exact lc_map strI (by omega) (fun x hx Y hY => ⟨log_le (h x hx).1 (h x hx).2, hY⟩) ⟨by rw [e1, List.length_map]; omega, k⟩
theorem F_slip_in {s : Slip} (h : SlOk' s) (h1 : s.1 ≤ 5) (h2 : 1 ≤ s.2 ∧ s.2 ≤ 1000000000) {Q : Option Slip → Prop} {E : EK} (k : Q (some s)) : t_slip_in (slipT s) Q E := by
  have hl := slipT_len h
  have h0 := h.1.1
  unfold t_slip_in
  rw [split_slipT h]
  refine ⟨⟨by decide, by unfold sizeLine; omega⟩, ?_⟩
  refine lc_map2 strI some (xs := [s.1, s.2]) (by simp) (fun n hn Y hY => ?_) ?_
  · simp only [List.mem_cons, List.not_mem_nil, or_false] at hn
    rcases hn with rfl | rfl
    · exact F_number_in h.1 hY
    · exact F_number_in h.2 hY
  · simp only [List.map_cons, List.map_nil]
    rw [if_neg (by simp)]
    refine ⟨some s.1, rfl, F_is_integer _ _ _ ?_⟩
    rw [whole_some h0 (by omega), if_neg (by simp)]
    refine ⟨some s.2, rfl, F_is_integer _ _ _ ?_⟩
    rw [whole_some h2.1 h2.2, if_pos rfl]
    exact ⟨_, rfl, _, rfl, _, rfl, _, rfl, k⟩
theorem F_house_in {x : House} (h : HsOk x) (h1 : ∀ s ∈ x.2, s.1 ≤ 5 ∧ 1 ≤ s.2 ∧ s.2 ≤ 1000000000) {Q : Option House → Prop} {E : EK} (k : Q (some x)) : t_house_in (houseT x) Q E := by
  have hl := houseT_len h
  have hpl := pileT_len h.2.1 h.2.2
  have h6 := h.2.1
  have hn : inB (none : Option Slip) (x.2.map some) = false := by
    rw [inB_not]
    intro z
    obtain ⟨_, _, e⟩ := List.mem_map.mp z
    cases e
  unfold t_house_in
  rw [split_houseT h]
  refine ⟨⟨by decide, by unfold sizeLine; omega⟩, ?_⟩
  rw [if_neg (by simp)]
  refine ⟨strI x.1, rfl, F_number_in h.1 (F_is_integer _ _ _ ?_)⟩
  rw [whole_some h.1.1 h.1.2, if_neg (by simp)]
  refine ⟨pileT x.2, rfl, ?_⟩
  have last : (fun b : List (Option Slip) => if inB (none : Option Slip) b = true then Q none else if decide ((6 : Int) < (b.length : Int)) = true then Q none else ∃ x3, atI [strI x.1, pileT x.2] (0 : Int) = some x3 ∧ t_number_in x3 (fun r3 => ∃ x4, r3 = some x4 ∧ ∃ ys, b = ys.map some ∧ Q (some (x4, ys))) E) (x.2.map some) := by
    show ite _ _ _
    rw [if_neg (by rw [hn]; simp), if_neg (by simp; omega)]
    exact ⟨_, rfl, F_number_in h.1 ⟨_, rfl, x.2, rfl, k⟩⟩
  by_cases he : x.2 = []
  · refine join_f (by rw [(pileT_emp h.2.2).mpr he]; decide) ⟨szle (by omega), ?_⟩
    rw [he] at last; exact last
  · refine join_t (by
      have : ¬ pileT x.2 = ("" : Str) := fun z => he ((pileT_emp h.2.2).mp z)
      rw [← eqB_iff] at this
      simpa using this) ⟨_, rfl, ⟨by decide, by unfold sizeLine; omega⟩, ?_⟩
    rw [split_pileT he h.2.2]
    exact lc_map2 slipT some (by omega) (fun s hs Y hY => by
      have q := h1 s hs
      exact F_slip_in (h.2.2 s hs) q.1 q.2 hY) last
theorem F_words_of {y : Str} (hl : y.length ≤ 10000) {Q : List Str → Prop} {E : EK} (k : Q (Txt.split y (" " : Str))) : t_words_of (eS y) Q E := by
  unfold t_words_of
  rw [if_neg (by rw [isT_str]; show ¬ ((!true) = true); simp)]
  exact ⟨y, rfl, ⟨by decide, by unfold sizeLine; omega⟩, k⟩
theorem okB_slips {b : List House} (hb : OkBook b) : ∀ x ∈ b, ∀ s ∈ x.2, s.1 ≤ 5 ∧ 1 ≤ s.2 ∧ s.2 ≤ 1000000000 := fun x hx s hs => by
  have h2 := hb.pile x hx
  have h3 := hb.len
  have := h2.to s hs
  have := h2.am s hs
  omega
theorem F_parse_book {b : List House} (hb : GoodB b) {Q : List House → Prop} {E : EK} (k : Q b) : t_parse_book (eS (bookT b)) Q E := by
  have hl := hb.len
  have hp := hb.pos
  have hs := okB_hs hb.toOkBook
  have hne : b ≠ [] := fun z => by rw [z] at hp; simp at hp
  unfold t_parse_book
  refine ⟨szle (by omega), F_words_of (by have := bookT_len hl hs; omega) ?_⟩
  rw [split_bookT hne hs]
  refine forP_ix (fun j s => s = b.take j) rfl (fun s hs' => ?_) (fun j x s hx hs' N k2 => ?_)
  · rw [enI_length, List.length_map, List.take_length] at hs'
    subst hs'
    refine forP_all _ (fun x hx N kn => ?_) k
    obtain ⟨i, e1, e2⟩ := mem_enI.mp hx
    have hi := (List.getElem?_eq_some_iff.mp e2).1
    have hm : x.2 ∈ s := List.mem_of_getElem? e2
    have hpl := hb.pile x.2 hm
    refine lc_map (fun _ : Slip => false) (by have := hpl.len; omega) (fun t ht Y hY => ?_) ?_
    · have h1 := hpl.to t ht
      have h2 : t.1 ≠ (i : Int) := by
        refine hb.ns i (by omega) t ?_
        rw [gh_nat hi]
        have : s[i] = x.2 := by rw [List.getElem?_eq_getElem hi] at e2; exact Option.some.inj e2
        rw [this]; exact ht
      rw [if_neg (by simp; omega), decide_eq_false (by omega)]
      exact hY
    · rw [if_neg (by simp)]; exact kn
  · obtain ⟨e1, e2⟩ := enI_get hx
    rw [List.getElem?_map] at e2
    cases eb : b[j]? with
    | none => rw [eb] at e2; cases e2
    | some y =>
      rw [eb] at e2
      have e3 : x.2 = houseT y := (Option.some.inj e2).symm
      have hj := (List.getElem?_eq_some_iff.mp eb).1
      have hm : y ∈ b := List.mem_of_getElem? eb
      rw [e3]
      refine F_house_in (hs y hm) (okB_slips hb.toOkBook y hm) ?_
      rw [if_neg (by simp), if_neg (by simp; omega)]
      refine ⟨y, rfl, szlt (by rw [hs', List.length_take]; omega), k2 _ ?_⟩
      rw [hs', List.take_add_one, eb]; rfl
theorem join_P {σ : Type} {f : (σ → Prop) → Prop} {k : σ → Prop} (P : σ → Prop) (hk : ∀ s, P s → k s) (h : ∀ K : σ → Prop, (∀ s, P s → K s) → f K) : joinP f k := h k hk
open _root_.TL
end Dl
namespace Dl
open PySem PySem.Spec PyProof.Rows L2
open _root_.TL
theorem eqBs {α : Type} [DecidableEq α] (x : α) : eqB x x = true := by unfold eqB; simp
theorem log_le' {i : Int} (h0 : 0 ≤ i) (h1 : i < 10 ^ 13) : i.natAbs.log2 < 1920 := by
  have h2 : i.natAbs < 10 ^ 13 := by omega
  by_cases hz : i.natAbs = 0
  · rw [hz]; decide
  · refine Nat.lt_of_lt_of_le ((Nat.log2_lt hz).mpr (Nat.lt_trans h2 (by decide : 10 ^ 13 < 2 ^ 60))) (by omega)
theorem dig_iff {c : Nat} : c ∈ ("0123456789" : Str).cps.toList ↔ 48 ≤ c ∧ c ≤ 57 := by
  refine ⟨fun h => ?_, dig_mem⟩
  have : ("0123456789" : Str).cps.toList = [48, 49, 50, 51, 52, 53, 54, 55, 56, 57] := by decide
  rw [this] at h
  simp only [List.mem_cons, List.not_mem_nil, or_false] at h
  omega
theorem canon : ∀ (k : Nat) (l : List Nat), l.length = k + 1 → (∀ x ∈ l, 48 ≤ x ∧ x ≤ 57) → (∀ r, l ≠ 48 :: r) → ∃ n, 0 < n ∧ numL n = l := by
  intro k
  induction k with
  | zero =>
    intro l hl hd h0
    match l, hl with
    | [c], _ =>
      have h1 := hd c (by simp)
      have h2 : c ≠ 48 := fun e => h0 [] (by rw [e])
      exact ⟨c - 48, by omega, by rw [numL_lt (by omega)]; congr 1; omega⟩
  | succ k ih =>
    intro l hl hd h0
    have hne : l ≠ [] := fun e => by rw [e] at hl; simp at hl
    have e := (List.dropLast_concat_getLast hne).symm
    have hl2 : l.dropLast.length = k + 1 := by rw [List.length_dropLast]; omega
    obtain ⟨n, hn, en⟩ := ih l.dropLast hl2 (fun x hx => hd x (List.dropLast_subset l hx)) (fun r er => h0 (r ++ [l.getLast hne]) (e.trans (by rw [er]; rfl)))
    have hc := hd (l.getLast hne) (List.getLast_mem hne)
    refine ⟨n * 10 + (l.getLast hne - 48), by omega, ?_⟩
    rw [numL_step (by omega), show (n * 10 + (l.getLast hne - 48)) / 10 = n by omega, show 48 + (n * 10 + (l.getLast hne - 48)) % 10 = l.getLast hne by omega, en]
    exact e.symm
def IsNum (z : Str) (n : Nat) : Prop := z = strI (n : Int) ∧ z.length ≤ 13
theorem IsNum.tl {z : Str} {n : Nat} (h : IsNum z n) : tl z = numL n := by rw [h.1, tl_strI]
theorem IsNum.uniq {z : Str} {m n : Nat} (h : IsNum z m) (k : IsNum z n) : m = n := numL_inj (by rw [← h.tl, ← k.tl])
theorem IsNum.of {z : Str} {n : Nat} (h : TL.tl z = numL n) (hl : z.length ≤ 13) : IsNum z n := ⟨ext_tl (by rw [h, tl_strI]), hl⟩
open Classical in
noncomputable def num (z : Str) : Option Int := if h : ∃ n, IsNum z n then some ((Classical.choose h : Nat) : Int) else none
theorem num_some {z : Str} {n : Nat} (h : IsNum z n) : num z = some (n : Int) := by
  have hh : ∃ n, IsNum z n := ⟨n, h⟩
  unfold num
  rw [dif_pos hh, (Classical.choose_spec hh).uniq h]
theorem num_none {z : Str} (h : ∀ n, ¬ IsNum z n) : num z = none := by
  unfold num
  rw [dif_neg fun ⟨n, k⟩ => h n k]
theorem num_get {z : Str} {i : Int} (h : num z = some i) : ∃ n : Nat, i = (n : Int) ∧ IsNum z n := by
  by_cases hh : ∃ n, IsNum z n
  · obtain ⟨n, k⟩ := hh
    rw [num_some k] at h
    exact ⟨n, (Option.some.inj h).symm, k⟩
  · rw [num_none fun n k => hh ⟨n, k⟩] at h; cases h
theorem num_it {z : Str} {n : Nat} (h : IsNum z n) : PySem.intText? z = some (n : Int) ∧ z.length ≤ 640 := by
  have h2 := h.2
  refine ⟨?_, by omega⟩
  have h3 : (numL n).length ≤ 13 := by rw [← h.tl, ← str_len]; exact h2
  rw [h.1]; exact int_num (by omega)
theorem sgns_map {β : Type} (g : Str → β) (z : Str) : (sgns z).map g = (tl z).map fun c => g ⟨#[c]⟩ := by unfold sgns; rw [List.map_map]; rfl
theorem sgns_len (z : Str) : (sgns z).length = z.length := by unfold sgns; rw [List.length_map]; exact (str_len z).symm
theorem F_number_any {z : Str} (hz : z.length ≤ 1000000) {Q : Option Int → Prop} {E : EK} (k : Q (num z)) : t_number_in z Q E := by
  have el := str_len z
  unfold t_number_in
  refine ⟨szle (by omega), ?_⟩
  by_cases h1 : 1 ≤ z.length
  · rw [if_pos (decide_eq_true (by omega))]
    by_cases h2 : z.length ≤ 13
    · rw [if_neg (by simp; omega)]
      refine lc_map (fun a => match sgn a with | some c => decide (c ∈ ("0123456789" : Str).cps.toList) | none => false) (by rw [sgns_len]; omega) (fun a ha Y hY => ?_) ?_
      · unfold sgns at ha
        obtain ⟨c, hc, rfl⟩ := List.mem_map.mp ha
        exact ⟨c, rfl, hY⟩
      · rw [sgns_map]
        by_cases hd : ∀ c ∈ tl z, 48 ≤ c ∧ c ≤ 57
        · have ea : (((tl z).map fun c => decide (c ∈ ("0123456789" : Str).cps.toList)).all id) = true := by
            rw [List.all_eq_true]
            intro x hx
            obtain ⟨c, hc, rfl⟩ := List.mem_map.mp hx
            exact decide_eq_true (dig_iff.mpr (hd c hc))
          show if (!(((tl z).map fun c => decide (c ∈ ("0123456789" : Str).cps.toList)).all id)) = true then _ else _
          rw [ea, if_neg (by simp)]
          match etl : tl z with
          | [] => rw [etl] at el; simp at el; omega
          | c :: r =>
            have etl' : z.cps.toList = c :: r := etl
            refine ⟨c, ⟨szle (by omega), by rw [etl']; exact atI_nat (j := 0) rfl⟩, ?_⟩
            by_cases hc : c = 48
            · subst hc
              rw [if_pos (by rw [eqB_iff]; decide)]
              have e0 : tl ("0" : Str) = [48] := by decide
              by_cases hr : r = []
              · subst hr
                have ez : z = ("0" : Str) := ext_tl (by rw [etl, e0])
                have hn : IsNum z 0 := IsNum.of (by rw [etl]; decide) h2
                rw [if_neg (by rw [ez]; decide)]
                rw [num_some hn] at k
                exact ⟨_, num_it hn, k⟩
              · rw [if_pos (by
                  have : ¬ z = ("0" : Str) := fun e => hr (by rw [e, e0] at etl; simpa using etl.symm)
                  rw [← eqB_iff] at this
                  simpa using this)]
                rw [num_none] at k
                · exact k
                · intro n hn
                  have e1 := hn.tl
                  rw [etl] at e1
                  by_cases hn0 : n = 0
                  · subst hn0
                    have : numL 0 = [48] := by decide
                    rw [this] at e1
                    exact hr (by simpa using e1)
                  · obtain ⟨c', r', e2, e3⟩ := numL_head n (by omega)
                    rw [e2] at e1
                    simp only [List.cons.injEq] at e1
                    exact e3 e1.1.symm
            · rw [if_neg (by
                rw [eqB_iff]
                intro e
                have e1 : tl (⟨#[c]⟩ : Str) = tl ("0" : Str) := by rw [e]
                have e2 : tl ("0" : Str) = [48] := by decide
                rw [e2] at e1
                have e1 : [c] = [48] := e1
                simp only [List.cons.injEq, and_true] at e1
                exact hc e1)]
              obtain ⟨n, _, hn⟩ := canon r.length (c :: r) (by simp) (by rw [← etl]; exact hd) (fun r' e => hc (by simp only [List.cons.injEq] at e; exact e.1))
              have hn : IsNum z n := IsNum.of (by rw [etl, hn]) h2
              rw [num_some hn] at k
              exact ⟨_, num_it hn, k⟩
        · have ea : (((tl z).map fun c => decide (c ∈ ("0123456789" : Str).cps.toList)).all id) = false := by
            rw [Bool.eq_false_iff]
            intro e
            rw [List.all_eq_true] at e
            refine hd fun c hc => dig_iff.mp ?_
            have := e _ (List.mem_map.mpr ⟨c, hc, rfl⟩)
            simpa using this
          show if (!(((tl z).map fun c => decide (c ∈ ("0123456789" : Str).cps.toList)).all id)) = true then _ else _
          rw [ea, if_pos (by simp)]
          rw [num_none] at k
          · exact k
          · intro n hn
            refine hd fun c hc => ?_
            rw [hn.tl] at hc
            exact numL_dig hc
    · rw [if_pos (by simp; omega)]
      rw [num_none] at k
      · exact k
      · intro n hn
        have := hn.2
        omega
  · rw [if_neg (by simp; omega)]
    rw [num_none] at k
    · exact k
    · intro n hn
      have := hn.tl
      have h0 : (tl z).length = 0 := by omega
      rw [this] at h0
      exact numL_ne n (List.length_eq_zero_iff.mp h0)
noncomputable def numr (z : Str) (lo hi : Int) : Option Int := match num z with | some i => if lo ≤ i ∧ i ≤ hi then some i else none | none => none
theorem numr_some {z : Str} {lo hi i : Int} : numr z lo hi = some i ↔ num z = some i ∧ lo ≤ i ∧ i ≤ hi := by
  unfold numr
  cases h : num z with
  | none => simp
  | some j =>
    by_cases hc : lo ≤ j ∧ j ≤ hi
    · simp only [hc, and_self, if_true, Option.some.injEq]
      constructor
      · rintro rfl; exact ⟨rfl, hc⟩
      · rintro ⟨rfl, _⟩; rfl
    · simp only [hc, if_false, Option.some.injEq]
      constructor
      · intro e; cases e
      · rintro ⟨rfl, q⟩; exact absurd q hc
def valL (l : List Nat) : Int := l.foldl (fun (t : Int) (c : Nat) => t * 10 + ((c : Int) - 48)) 0
theorem valL_snoc (l : List Nat) (c : Nat) : valL (l ++ [c]) = valL l * 10 + ((c : Int) - 48) := by unfold valL; rw [List.foldl_append]; rfl
theorem occ_dig {c : Nat} (h : 48 ≤ c ∧ c ≤ 57) : Builtin.Str.occurrences ("0123456789" : Str) (⟨#[c]⟩ : Str) 0 ("0123456789" : Str).length 1 = [c - 48] := by
  obtain ⟨d, hd, rfl⟩ : ∃ d, d < 10 ∧ c = 48 + d := ⟨c - 48, by omega, by omega⟩
  have : ∀ d : Nat, d < 10 → Builtin.Str.occurrences ("0123456789" : Str) (⟨#[48 + d]⟩ : Str) 0 ("0123456789" : Str).length 1 = [48 + d - 48] := by decide +kernel
  exact this d hd
theorem F__law_number {z : Str} (hz : z.length ≤ 1000000) (lo hi : Int) {Q : Option Int → Prop} {E : EK} (k : Q (numr z lo hi)) : t__law_number z lo hi Q E := by
  have el := str_len z
  unfold t__law_number
  have nn : (∀ n, ¬ IsNum z n) → Q none := fun h => by
    have : numr z lo hi = none := by unfold numr; rw [num_none h]
    rw [this] at k; exact k
  by_cases h0 : z = ("" : Str)
  · rw [if_pos (by rw [eqB_iff]; exact h0)]
    refine nn fun n hn => ?_
    have e := hn.tl
    rw [h0] at e
    exact numL_ne n (by rw [← e]; decide)
  · rw [if_neg (by rw [eqB_iff]; exact h0)]
    refine ⟨szle (by omega), ?_⟩
    by_cases h2 : 13 < z.length
    · rw [if_pos (decide_eq_true (by omega))]
      exact nn fun n hn => by have := hn.2; omega
    · rw [if_neg (by simp; omega)]
      refine lc_filter (fun a => match sgn a with | some c => if c ∈ ("0123456789" : Str).cps.toList then none else some a | none => none) (by rw [sgns_len]; omega) (fun a ha Y M hY hM => ?_) ?_
      · unfold sgns at ha
        obtain ⟨c, hc, rfl⟩ := List.mem_map.mp ha
        refine ⟨c, rfl, ?_⟩
        by_cases hd : c ∈ ("0123456789" : Str).cps.toList
        · show if (!decide (c ∈ ("0123456789" : Str).cps.toList)) = true then _ else _
          rw [if_neg (by simp only [hd, decide_true, Bool.not_true, Bool.false_eq_true, not_false_eq_true])]
          exact hM (by show (if c ∈ ("0123456789" : Str).cps.toList then none else some _) = none; rw [if_pos hd])
        · show if (!decide (c ∈ ("0123456789" : Str).cps.toList)) = true then _ else _
          rw [if_pos (by simp only [hd, decide_false, Bool.not_false])]
          exact hY _ (by show (if c ∈ ("0123456789" : Str).cps.toList then none else some _) = some _; rw [if_neg hd])
      · by_cases hd : ∀ c ∈ tl z, 48 ≤ c ∧ c ≤ 57
        · have ef : (sgns z).filterMap (fun a => match sgn a with | some c => if c ∈ ("0123456789" : Str).cps.toList then none else some a | none => none) = [] := by
            rw [List.filterMap_eq_nil_iff]
            intro a ha
            unfold sgns at ha
            obtain ⟨c, hc, rfl⟩ := List.mem_map.mp ha
            show (if c ∈ ("0123456789" : Str).cps.toList then none else some _) = none
            rw [if_pos (dig_iff.mpr (hd c hc))]
          rw [ef]
          refine ⟨szle (by omega), ?_⟩
          rw [if_neg (by rw [eqBs]; simp)]
          refine forP_ix (fun j s => s = valL ((tl z).take j) ∧ 0 ≤ s ∧ s < 10 ^ j) ⟨rfl, by omega, by decide⟩ (fun s hs => ?_) (fun j x s hx hs N k2 => ?_)
          · obtain ⟨e1, e2, e3⟩ := hs
            rw [sgns_len, el, List.take_length] at e1
            rw [sgns_len] at e3
            have e4 : s < 10 ^ 13 := Int.lt_of_lt_of_le e3 (by
              have := Nat.pow_le_pow_right (n := 10) (by omega) (show z.length ≤ 13 by omega)
              have h3 : ((10 ^ z.length : Nat) : Int) ≤ ((10 ^ 13 : Nat) : Int) := by exact_mod_cast this
              simpa using h3)
            obtain ⟨m, rfl⟩ : ∃ m : Nat, s = (m : Int) := ⟨s.toNat, by omega⟩
            refine ⟨log_le' (by omega) (by omega), ?_⟩
            by_cases hs2 : strI (m : Int) = z
            · rw [if_pos (by rw [eqB_iff]; exact hs2)]
              have hn : IsNum z m := ⟨hs2.symm, by omega⟩
              have hnum := num_some hn
              unfold numr at k
              rw [hnum] at k
              by_cases a1 : lo ≤ (m : Int)
              · rw [if_pos (decide_eq_true a1)]
                by_cases a2 : (m : Int) ≤ hi
                · rw [if_pos (decide_eq_true a2)]
                  simpa [a1, a2] using k
                · rw [if_neg (by simpa using a2)]
                  simpa [a1, a2] using k
              · rw [if_neg (by simpa using a1)]
                simpa [a1] using k
            · rw [if_neg (by rw [eqB_iff]; exact hs2)]
              refine nn fun n hn => hs2 ?_
              have : (m : Int) = (n : Int) := by
                rw [e1, hn.tl]
                exact fold_num n
              rw [this]; exact hn.1.symm
          · obtain ⟨e1, e2, e3⟩ := hs
            unfold sgns at hx
            rw [List.getElem?_map] at hx
            cases ec : z.cps.toList[j]? with
            | none => rw [ec] at hx; cases hx
            | some c =>
              rw [ec] at hx
              cases hx
              have hcd := hd c (List.mem_of_getElem? ec)
              have hj : j < z.length := by rw [el]; exact (List.getElem?_eq_some_iff.mp ec).1
              have e4 : s < 10 ^ 13 := Int.lt_of_lt_of_le e3 (by
                have := Nat.pow_le_pow_right (n := 10) (by omega) (show j ≤ 13 by omega)
                have h3 : ((10 ^ j : Nat) : Int) ≤ ((10 ^ 13 : Nat) : Int) := by exact_mod_cast this
                simpa using h3)
              refine ⟨.inr (by omega), c - 48, [], occ_dig hcd, k2 _ ⟨?_, by omega, ?_⟩⟩
              · show s * 10 + ((c - 48 : Nat) : Int) = valL (z.cps.toList.take (j + 1))
                rw [List.take_add_one, ec]
                show _ = valL (z.cps.toList.take j ++ [c])
                rw [valL_snoc, ← (show s = valL (z.cps.toList.take j) from e1)]
                omega
              · show s * 10 + ((c - 48 : Nat) : Int) < 10 ^ (j + 1)
                rw [Int.pow_succ]
                omega
        · refine ⟨szle (by omega), ?_⟩
          rw [if_pos]
          · refine nn fun n hn => hd fun c hc => ?_
            rw [hn.tl] at hc
            exact numL_dig hc
          · have : ¬ (sgns z).filterMap (fun a => match sgn a with | some c => if c ∈ ("0123456789" : Str).cps.toList then none else some a | none => none) = [] := by
              intro e
              rw [List.filterMap_eq_nil_iff] at e
              refine hd fun c hc => dig_iff.mp ?_
              have := e ⟨#[c]⟩ (by unfold sgns; exact List.mem_map.mpr ⟨c, hc, rfl⟩)
              have this : (if c ∈ ("0123456789" : Str).cps.toList then none else some (⟨#[c]⟩ : Str)) = none := this
              by_cases hm : c ∈ ("0123456789" : Str).cps.toList
              · exact hm
              · rw [if_neg hm] at this; cases this
            rw [← eqB_iff] at this
            simpa using this
end Dl
namespace Dl
open PySem PySem.Spec PyProof.Rows L2
open _root_.TL
def TxO (n : Nat) (z : Str) : Prop := z.length ≤ n ∧ okStr z
def WsO (n : Nat) (ws : List Str) : Prop := (ws.map (·.length)).sum + ws.length ≤ n ∧ ∀ w ∈ ws, okStr w
theorem TxO.mono {n m : Nat} {z : Str} (h : TxO n z) (k : n ≤ m) : TxO m z := ⟨Nat.le_trans h.1 k, h.2⟩
theorem WsO.mono {n m : Nat} {z : List Str} (h : WsO n z) (k : n ≤ m) : WsO m z := ⟨Nat.le_trans h.1 k, h.2⟩
theorem sum_mem : ∀ {ws : List Str} {w : Str}, w ∈ ws → w.length ≤ (ws.map (·.length)).sum
  | x :: r, w, h => by
    rw [List.map_cons, List.sum_cons]
    rcases List.mem_cons.mp h with rfl | h
    · omega
    · have := sum_mem h; omega
theorem WsO.get {n : Nat} {ws : List Str} (h : WsO n ws) {w : Str} (hw : w ∈ ws) : TxO n w := ⟨by have := sum_mem hw; have := h.1; omega, h.2 w hw⟩
theorem spl1_sum (s : Nat) : ∀ (l acc : List Nat), ((spl [s] 0 acc l).map List.length).sum + (spl [s] 0 acc l).length = acc.length + l.length + 1
  | [], acc => by rw [spl_nil]; simp
  | c :: r, acc => by
    cases h : pre [s] (c :: r) with
    | true =>
      rw [spl_hit h]
      have ih : ((spl [s] 0 [] r).map List.length).sum + (spl [s] 0 [] r).length = 0 + r.length + 1 := spl1_sum s r []
      show acc.length + ((spl [s] 0 [] r).map List.length).sum + ((spl [s] 0 [] r).length + 1) = acc.length + (r.length + 1) + 1
      omega
    | false =>
      rw [spl_miss h, spl1_sum s r (acc ++ [c]), List.length_append]
      simp only [List.length_singleton, List.length_cons, List.length_nil]
      omega
theorem spl1_mem (s : Nat) : ∀ (l acc : List Nat) (p : List Nat), p ∈ spl [s] 0 acc l → ∀ c ∈ p, c ∈ acc ∨ c ∈ l
  | [], acc, p, hp, c, hc => by
    rw [spl_nil, List.mem_singleton] at hp
    subst hp; exact .inl hc
  | d :: r, acc, p, hp, c, hc => by
    cases h : pre [s] (d :: r) with
    | true =>
      rw [spl_hit h] at hp
      rcases List.mem_cons.mp hp with rfl | hp
      · exact .inl hc
      · rcases spl1_mem s r [] p hp c hc with k | k
        · cases k
        · exact .inr (List.mem_cons_of_mem _ k)
    | false =>
      rw [spl_miss h] at hp
      rcases spl1_mem s r (acc ++ [d]) p hp c hc with k | k
      · rcases List.mem_append.mp k with k | k
        · exact .inl k
        · rw [List.mem_singleton] at k; subst k; exact .inr (by simp)
      · exact .inr (List.mem_cons_of_mem _ k)
theorem split_ws {n : Nat} {z y : Str} {c : Nat} (ey : tl y = [c]) (hk : y.cps.all (· < 256) = true) (h : TxO n z) : WsO (n + 1) (Txt.split z y) := by
  have e := split_spl z y (by rw [ey]; simp) (kind_ok hk)
  rw [ey] at e
  have s := spl1_sum c (tl z) []
  rw [← e, List.map_map, List.length_map] at s
  have hz := h.1
  rw [str_len] at hz
  have e2 : (Txt.split z y).map (List.length ∘ tl) = (Txt.split z y).map (·.length) := List.map_congr_left fun w _ => (str_len w).symm
  rw [e2] at s
  refine ⟨by simp only [List.length_nil] at s; omega, fun w hw d hd => ?_⟩
  have hm : tl w ∈ spl [c] 0 [] (tl z) := by rw [← e]; exact List.mem_map.mpr ⟨w, hw, rfl⟩
  rcases spl1_mem c (tl z) [] (tl w) hm d hd with k | k
  · cases k
  · exact h.2 d k
theorem split_count {z y : Str} (hy : tl y ≠ []) (hk : y.cps.all (· < 256) = true) : ((Txt.split z y).length : Int) = PySem.Txt.count z y + 1 := by
  obtain ⟨f, g, hn⟩ := PySem.StrLaws.occ_tight z y (len1 hy)
  unfold Txt.split PySem.Txt.count
  by_cases h1 : (decide (z.length < y.length) || decide (Builtin.Str.strKind z < Builtin.Str.strKind y)) = true
  · rw [if_pos h1]
    have hlt : z.length < y.length := by
      simp only [Bool.or_eq_true, decide_eq_true_eq] at h1
      rcases h1 with h | h
      · exact h
      · exact absurd h (kind_ok hk)
    cases ho : Builtin.Str.occurrences z y 0 z.length (z.length + 1) with
    | nil => rfl
    | cons c r =>
      rw [ho] at g
      have hc : c + y.length ≤ z.length := g.2.1.1
      omega
  · rw [if_neg h1]
    by_cases h2 : (Builtin.Str.occurrences z y 0 z.length (z.length + 1)).isEmpty = true
    · rw [if_pos h2, List.isEmpty_iff.mp h2]; rfl
    · rw [if_neg h2]
      unfold PySem.Builtin.Str.partsBetween
      simp
theorem dash_k : ("-" : Str).cps.all (· < 256) = true := by decide +kernel
theorem colon_k : (":" : Str).cps.all (· < 256) = true := by decide +kernel
theorem comma_k : ("," : Str).cps.all (· < 256) = true := by decide +kernel
theorem blank_k : (" " : Str).cps.all (· < 256) = true := by decide +kernel
theorem F_countS {z y : Str} {Q : Int → Prop} {E : EK} (hy : tl y ≠ []) (hk : y.cps.all (· < 256) = true) (k : Q (((Txt.split z y).length : Int) - 1)) : countSW z y Q E := by
  have := split_count (z := z) hy hk
  unfold countSW
  rw [show PySem.Txt.count z y = ((Txt.split z y).length : Int) - 1 by omega]; exact k
noncomputable def prN (z : Str) : Option Int × Option Int := match Txt.split z ("-" : Str) with
  | [a, b] => (numr a 0 5, numr b 1 1000000000)
  | _ => (none, none)
noncomputable def slipN (z : Str) : Option Slip := match prN z with
  | (some i, some j) => some (i, j)
  | _ => none
theorem slipN_some {z : Str} {s : Slip} : slipN z = some s ↔ prN z = (some s.1, some s.2) := by
  unfold slipN
  rcases h : prN z with ⟨_ | i, _ | j⟩
  · simp
  · simp
  · simp
  · simp only [Option.some.injEq, Prod.mk.injEq]
    constructor
    · rintro rfl; exact ⟨rfl, rfl⟩
    · rintro ⟨h1, h2⟩; exact Prod.ext h1 h2
theorem prN_two {z a b : Str} (h : Txt.split z ("-" : Str) = [a, b]) : prN z = (numr a 0 5, numr b 1 1000000000) := by unfold prN; rw [h]
theorem prN_not {z : Str} (h : ∀ a b, Txt.split z ("-" : Str) ≠ [a, b]) : prN z = (none, none) := by
  unfold prN
  split
  · next a b e => exact absurd e (h a b)
  · rfl
theorem two_len {α : Type} {xs : List α} (h : xs.length = 2) : ∃ a b, xs = [a, b] := match xs, h with | [a, b], _ => ⟨a, b, rfl⟩
theorem whole_opt (x : Option Int) (lo hi : Int) : wholeD (eO eI x) lo hi = (match x with | some i => decide (lo ≤ i) && decide (i ≤ hi) | none => false) := by
  cases x with
  | none => rfl
  | some i => rfl
theorem numr_eq (z : Str) (lo hi : Int) : numr z lo hi = (match num z with | some i => if lo ≤ i ∧ i ≤ hi then some i else none | none => none) := rfl
theorem numr_cases (z : Str) (lo hi : Int) : (wholeD (eO eI (num z)) lo hi = false ∧ numr z lo hi = none) ∨ (∃ i, wholeD (eO eI (num z)) lo hi = true ∧ num z = some i ∧ numr z lo hi = some i) := by
  rw [whole_opt, numr_eq]
  cases num z with
  | none => exact .inl ⟨rfl, rfl⟩
  | some i =>
    by_cases h : lo ≤ i ∧ i ≤ hi
    · exact .inr ⟨i, by simp [h.1, h.2], rfl, if_pos h⟩
    · refine .inl ⟨?_, if_neg h⟩
      by_cases h1 : lo ≤ i
      · have h2 : ¬ i ≤ hi := fun k => h ⟨h1, k⟩
        simp [h1, h2]
      · simp [h1]
theorem F_slip_any {n : Nat} {z : Str} (hz : TxO n z) (hn : n ≤ 100000) {Q : Option Slip → Prop} {E : EK} (k : Q (slipN z)) : t_slip_in z Q E := by
  have hw := split_ws tl_dash dash_k hz
  have hw1 := hw.1
  have hz1 := hz.1
  unfold t_slip_in
  refine ⟨⟨by decide, by unfold sizeLine; omega⟩, ?_⟩
  refine lc_map num (by omega) (fun a ha Y hY => F_number_any (by have := (hw.get ha).1; omega) hY) ?_
  by_cases h2 : (Txt.split z ("-" : Str)).length = 2
  · obtain ⟨a, b, e⟩ := two_len h2
    rw [e]
    simp only [List.map_cons, List.map_nil]
    rw [if_neg (by simp)]
    have ep := prN_two e
    refine ⟨num a, rfl, F_is_integer _ _ _ ?_⟩
    show if (!(wholeD (eO eI (num a)) 0 5)) = true then _ else _
    rcases numr_cases a 0 5 with ⟨w1, w2⟩ | ⟨i, w1, w2, w3⟩
    · rw [w1, if_pos (show (!false) = true from rfl)]
      have : slipN z = none := by unfold slipN; rw [ep, w2]
      rw [this] at k; exact k
    · rw [w1, if_neg (by simp)]
      refine ⟨num b, rfl, F_is_integer _ _ _ ?_⟩
      rcases numr_cases b 1 1000000000 with ⟨v1, v2⟩ | ⟨j, v1, v2, v3⟩
      · rw [v1, if_neg (by simp)]
        have : slipN z = none := by unfold slipN; rw [ep, w3, v2]
        rw [this] at k; exact k
      · rw [v1, if_pos rfl]
        have : slipN z = some (i, j) := by unfold slipN; rw [ep, w3, v3]
        rw [this] at k
        exact ⟨_, rfl, i, w2, _, rfl, j, v2, k⟩
  · rw [if_pos (by simp only [List.length_map]; simpa using (by omega : ¬ ((Txt.split z ("-" : Str)).length : Int) = 2))]
    have : slipN z = none := by
      unfold slipN
      rw [prN_not fun a b e => h2 (by rw [e]; rfl)]
    rw [this] at k; exact k
def partsN (w : Str) : List Str := if w = ("" : Str) then [] else Txt.split w ("," : Str)
noncomputable def slipsN (w : Str) : List (Option Slip) := (partsN w).map slipN
open Classical in
noncomputable def houseN (z : Str) : Option House := match Txt.split z (":" : Str) with
  | [a, b] => (match numr a 0 1000000000000 with
    | some i => if none ∈ slipsN b ∨ 6 < (slipsN b).length then none else some (i, (slipsN b).filterMap id)
    | none => none)
  | _ => none
theorem houseN_not {z : Str} (h : ∀ a b, Txt.split z (":" : Str) ≠ [a, b]) : houseN z = none := by
  unfold houseN
  split
  · next a b e => exact absurd e (h a b)
  · rfl
theorem houseN_no {z a b : Str} (h : Txt.split z (":" : Str) = [a, b]) (k : numr a 0 1000000000000 = none ∨ none ∈ slipsN b ∨ 6 < (slipsN b).length) : houseN z = none := by
  unfold houseN
  rw [h]
  show (match numr a 0 1000000000000 with | some i => if none ∈ slipsN b ∨ 6 < (slipsN b).length then none else some (i, (slipsN b).filterMap id) | none => none) = none
  cases hn : numr a 0 1000000000000 with
  | none => rfl
  | some i =>
    rcases k with k | k
    · rw [hn] at k; cases k
    · exact if_pos k
theorem houseN_yes {z a b : Str} {i : Int} (h : Txt.split z (":" : Str) = [a, b]) (hi : numr a 0 1000000000000 = some i) (k1 : ¬ none ∈ slipsN b) (k2 : ¬ 6 < (slipsN b).length) : houseN z = some (i, (slipsN b).filterMap id) := by
  unfold houseN
  rw [h]
  show (match numr a 0 1000000000000 with | some i => if none ∈ slipsN b ∨ 6 < (slipsN b).length then none else some (i, (slipsN b).filterMap id) | none => none) = _
  rw [hi]
  exact if_neg (by rintro (q | q); exact k1 q; exact k2 q)
theorem all_some {α : Type} : ∀ {xs : List (Option α)}, ¬ none ∈ xs → xs = (xs.filterMap id).map some
  | [], _ => rfl
  | none :: r, h => absurd (by simp) h
  | some x :: r, h => by
    have ih := all_some (xs := r) fun k => h (List.mem_cons_of_mem _ k)
    show some x :: r = some x :: (r.filterMap id).map some
    rw [← ih]
theorem parts_ws {n : Nat} {w : Str} (h : TxO n w) : WsO (n + 1) (partsN w) := by
  unfold partsN
  split
  · exact ⟨by simp, by simp⟩
  · exact split_ws tl_comma comma_k h
theorem F_house_any {n : Nat} {z : Str} (hz : TxO n z) (hn : n ≤ 90000) {Q : Option House → Prop} {E : EK} (k : Q (houseN z)) : t_house_in z Q E := by
  have hw := split_ws tl_colon colon_k hz
  have hw1 := hw.1
  have hz1 := hz.1
  unfold t_house_in
  refine ⟨⟨by decide, by unfold sizeLine; omega⟩, ?_⟩
  by_cases h2 : (Txt.split z (":" : Str)).length = 2
  · obtain ⟨a, b, e⟩ := two_len h2
    have ha := hw.get (w := a) (by rw [e]; simp)
    have hb := hw.get (w := b) (by rw [e]; simp)
    have hp := parts_ws hb
    have hp1 := hp.1
    rw [e]
    rw [if_neg (by simp)]
    refine ⟨a, rfl, F_number_any (by have := ha.1; omega) (F_is_integer _ _ _ ?_)⟩
    rcases numr_cases a 0 1000000000000 with ⟨w1, w2⟩ | ⟨i, w1, w2, w3⟩
    · rw [w1, if_pos (show (!false) = true from rfl)]
      rw [houseN_no e (.inl w2)] at k; exact k
    · rw [w1, if_neg (by simp)]
      refine ⟨b, rfl, join_to (slipsN b) ?_ fun K hK => ?_⟩
      · show if inB (none : Option Slip) (slipsN b) = true then _ else _
        by_cases k1 : none ∈ slipsN b
        · rw [if_pos (by rw [inB_iff]; exact k1)]
          rw [houseN_no e (.inr (.inl k1))] at k; exact k
        · rw [if_neg (by rw [inB_iff]; exact k1)]
          by_cases k2 : 6 < (slipsN b).length
          · rw [if_pos (decide_eq_true (by omega))]
            rw [houseN_no e (.inr (.inr k2))] at k; exact k
          · rw [if_neg (by simp; omega)]
            rw [houseN_yes e w3 k1 k2] at k
            exact ⟨a, rfl, F_number_any (by have := ha.1; omega) ⟨i, w2, (slipsN b).filterMap id, all_some k1, k⟩⟩
      · by_cases he : b = ("" : Str)
        · rw [if_neg (by rw [he]; decide)]
          have : slipsN b = [] := by unfold slipsN partsN; rw [if_pos he]; rfl
          rw [this] at hK
          exact ⟨szle (by omega), hK⟩
        · rw [if_pos (by
            have := he
            rw [← eqB_iff] at this
            simpa using this)]
          have ep : partsN b = Txt.split b ("," : Str) := by unfold partsN; rw [if_neg he]
          have hb1 := hb.1
          refine ⟨b, rfl, ⟨by decide, by unfold sizeLine; omega⟩, ?_⟩
          rw [← ep]
          exact lc_map slipN (by omega) (fun x hx Y hY => F_slip_any (hp.get hx) (by omega) hY) hK
  · rw [if_pos (by simpa using (by omega : ¬ ((Txt.split z (":" : Str)).length : Int) = 2))]
    rw [houseN_not fun a b e => h2 (by rw [e]; rfl)] at k
    exact k
def ohN (h : House) : Int × List (Option Int × Option Int) := (h.1, h.2.map fun s => (some s.1, some s.2))
theorem pr_map {ps : List Str} (h : ¬ none ∈ ps.map slipN) : ps.map prN = ((ps.map slipN).filterMap id).map fun s => (some s.1, some s.2) := by
  induction ps with
  | nil => rfl
  | cons x r ih =>
    rw [List.map_cons] at h
    have ih := ih fun k => h (List.mem_cons_of_mem _ k)
    cases hx : slipN x with
    | none => exact absurd (by rw [hx]; simp) h
    | some s =>
      have e := slipN_some.mp hx
      rw [List.map_cons, List.map_cons, hx, e, ih]; rfl
theorem F__law_house_of {n : Nat} {z : Str} (hz : TxO n z) (hn : n ≤ 90000) {Q : Option (Int × List (Option Int × Option Int)) → Prop} {E : EK} (k : Q ((houseN z).map ohN)) : t__law_house_of z Q E := by
  have hw := split_ws tl_colon colon_k hz
  have hw1 := hw.1
  have hz1 := hz.1
  have e9 : (10 : Int) ^ (9 : Int).toNat = 1000000000 := by decide
  have e12 : (10 : Int) ^ (12 : Int).toNat = 1000000000000 := by decide
  unfold t__law_house_of
  refine F_countS (by rw [tl_colon]; simp) colon_k ?_
  by_cases h2 : (Txt.split z (":" : Str)).length = 2
  · obtain ⟨a, b, e⟩ := two_len h2
    have ha := hw.get (w := a) (by rw [e]; simp)
    have hb := hw.get (w := b) (by rw [e]; simp)
    have hp := parts_ws hb
    have hp1 := hp.1
    have ha1 := ha.1
    have hb1 := hb.1
    have no : houseN z = none → Q none := fun h => by rw [h] at k; exact k
    rw [if_neg (by rw [h2]; decide)]
    refine ⟨⟨by decide, by unfold sizeLine; omega⟩, (a, b), e, szle (by omega), join_to (partsN b) ?_ fun K hK => ?_⟩
    · refine forP_ix (fun j s => s = ((partsN b).take j).map prN) rfl (fun s hs => ?_) (fun j x s hx hs N kn => ?_)
      · rw [List.take_length] at hs
        have hsl : s.length = (partsN b).length := by rw [hs, List.length_map]
        have hml : (slipsN b).length = (partsN b).length := by unfold slipsN; rw [List.length_map]
        show if decide ((6 : Int) < (s.length : Int)) = true then _ else _
        by_cases k2 : 6 < (slipsN b).length
        · rw [if_pos (decide_eq_true (by omega))]
          exact no (houseN_no e (.inr (.inr k2)))
        · rw [if_neg (by simp; omega)]
          refine lc_filter (fun p => if none ∈ [p.1, p.2] then some p else none) (by omega) (fun p hp Y M hY hM => ?_) ⟨szle (by omega), ?_⟩
          · show if inB none [p.1, p.2] = true then _ else _
            by_cases hq : none ∈ [p.1, p.2]
            · rw [if_pos (by rw [inB_iff]; exact hq)]; exact hY p (if_pos hq)
            · rw [if_neg (by rw [inB_iff]; exact hq)]; exact hM (if_neg hq)
          · by_cases k1 : none ∈ slipsN b
            · rw [if_pos]
              · exact no (houseN_no e (.inr (.inl k1)))
              · have : ¬ s.filterMap (fun p => if none ∈ [p.1, p.2] then some p else none) = [] := by
                  intro q
                  rw [List.filterMap_eq_nil_iff] at q
                  obtain ⟨x, hx, ex⟩ := List.mem_map.mp k1
                  have q := q (prN x) (by rw [hs]; exact List.mem_map.mpr ⟨x, hx, rfl⟩)
                  have : none ∈ [(prN x).1, (prN x).2] := by
                    unfold slipN at ex
                    match hpx : prN x with
                    | (some i, some j) => rw [hpx] at ex; cases ex
                    | (some i, none) => simp
                    | (none, some j) => simp
                    | (none, none) => simp
                  rw [if_pos this] at q; cases q
                rw [← eqB_iff] at this
                simpa using this
            · have em := pr_map (ps := partsN b) k1
              have : s.filterMap (fun p => if none ∈ [p.1, p.2] then some p else none) = [] := by
                rw [List.filterMap_eq_nil_iff]
                intro p hp
                rw [hs, em] at hp
                obtain ⟨t, _, rfl⟩ := List.mem_map.mp hp
                exact if_neg (by simp)
              rw [this, if_neg (by rw [eqBs]; simp)]
              refine ⟨cpow_dec (by decide), ?_⟩
              rw [e12]
              refine F__law_number (show a.length ≤ 1000000 by omega) _ _ ?_
              cases hi : numr a 0 1000000000000 with
              | none =>
                rw [if_pos (show (none : Option Int).isNone = true from rfl)]
                exact no (houseN_no e (.inl hi))
              | some i =>
                rw [if_neg (by simp)]
                obtain ⟨m, em2, hm⟩ := num_get (numr_some.mp hi).1
                subst em2
                refine ⟨_, num_it hm, ?_⟩
                rw [houseN_yes e hi k1 k2] at k
                have k : Q (some (ohN ((m : Int), (slipsN b).filterMap id))) := k
                rw [hs, em]; exact k
      · have hm : x ∈ partsN b := List.mem_of_getElem? hx
        have hxo := hp.get hm
        have hx1 := hxo.1
        have hxw := split_ws tl_dash dash_k hxo
        have hxw1 := hxw.1
        have hj := (List.getElem?_eq_some_iff.mp hx).1
        refine F_countS (by rw [tl_dash]; simp) dash_k ?_
        by_cases h3 : (Txt.split x ("-" : Str)).length = 2
        · obtain ⟨c, d, e3⟩ := two_len h3
          have hc := hxw.get (w := c) (by rw [e3]; simp)
          have hd := hxw.get (w := d) (by rw [e3]; simp)
          rw [if_neg (by rw [h3]; decide)]
          refine ⟨⟨by decide, by unfold sizeLine; omega⟩, (c, d), e3, F__law_number (show c.length ≤ 1000000 by have := hc.1; omega) _ _ ⟨cpow_dec (by decide), ?_⟩⟩
          rw [e9]
          refine F__law_number (show d.length ≤ 1000000 by have := hd.1; omega) _ _ ⟨szlt (by rw [hs, List.length_map, List.length_take]; omega), kn _ ?_⟩
          rw [List.take_add_one, hx]
          show s ++ [_] = ((partsN b).take j ++ [x]).map prN
          rw [List.map_append, ← hs, List.map_cons, List.map_nil, prN_two e3]
        · rw [if_pos (by simpa using (by omega : ¬ ((Txt.split x ("-" : Str)).length : Int) - 1 = 1))]
          refine no (houseN_no e (.inr (.inl ?_)))
          have : slipN x = none := by
            unfold slipN
            rw [prN_not fun a b e => h3 (by rw [e]; rfl)]
          exact List.mem_map.mpr ⟨x, hm, this⟩
    · by_cases he : b = ("" : Str)
      · rw [if_neg (by show ¬ ((!(eqB b ("" : Str))) = true); rw [he]; decide)]
        have : partsN b = [] := by unfold partsN; rw [if_pos he]
        rw [this] at hK
        exact ⟨szle (by omega), hK⟩
      · rw [if_pos (by
          have := he
          rw [← eqB_iff] at this
          simpa using this)]
        have ep : partsN b = Txt.split b ("," : Str) := by unfold partsN; rw [if_neg he]
        rw [ep] at hK
        exact ⟨⟨by decide, by unfold sizeLine; show b.length + 2 ≤ _; omega⟩, hK⟩
  · rw [if_pos (by simpa using (by omega : ¬ ((Txt.split z (":" : Str)).length : Int) - 1 = 1))]
    rw [houseN_not fun a b e => h2 (by rw [e]; rfl)] at k
    exact k
end Dl
namespace Dl
open PySem PySem.Spec PyProof.Rows L2
open _root_.TL
def First (p : Nat → Prop) (j : Nat) : Prop := p j ∧ ∀ i, i < j → ¬ p i
theorem first_dec (p : Nat → Prop) : (∃ j, First p j) ∨ ∀ j, ¬ p j := by
  by_cases h : ∃ j, p j
  · left
    obtain ⟨j, hj⟩ := h
    induction j using Nat.strongRecOn with
    | _ j ih =>
      by_cases h2 : ∃ i, i < j ∧ p i
      · obtain ⟨i, h3, h4⟩ := h2; exact ih i h3 h4
      · exact ⟨j, hj, fun i hi hp => h2 ⟨i, hi, hp⟩⟩
  · right; exact fun j hj => h ⟨j, hj⟩
theorem first_uniq {p : Nat → Prop} {i j : Nat} (h : First p i) (k : First p j) : i = j := by
  rcases Nat.lt_trichotomy i j with q | q | q
  · exact absurd h.1 (k.2 i q)
  · exact q
  · exact absurd k.1 (h.2 j q)
theorem forP_first {α σ : Type} {body : α → σ → (σ → Prop) → (σ → Prop) → Prop} {K : σ → Prop} (p : Nat → Prop) {xs : List α} (I : Nat → σ → Prop) {s : σ} (h : I 0 s) (hp : ∀ i, p i → i < xs.length)
    (bad : ∀ (j : Nat) x s, First p j → xs[j]? = some x → I j s → ∀ N : σ → Prop, body x s N K)
    (good : ∀ (j : Nat) x s, ¬ p j → xs[j]? = some x → I j s → ∀ N : σ → Prop, (∀ s', I (j + 1) s' → N s') → body x s N K)
    (fin : (∀ j, ¬ p j) → ∀ s, I xs.length s → K s) : forP body K xs s := by
  refine forP_ix (fun j s => I j s ∧ ∀ i, i < j → ¬ p i) ⟨h, fun i hi => absurd hi (by omega)⟩ (fun s hs => fin (fun j hj => hs.2 j (hp j hj) hj) s hs.1) (fun j x s hx hs N k => ?_)
  by_cases hj : p j
  · exact bad j x s ⟨hj, hs.2⟩ hx hs.1 N
  · refine good j x s hj hx hs.1 N fun s' h' => k s' ⟨h', fun i hi => ?_⟩
    rcases Nat.lt_or_ge i j with q | q
    · exact hs.2 i q
    · have : i = j := by omega
      subst this; exact hj
theorem houseN_ok {z : Str} {h : House} (e : houseN z = some h) : (0 ≤ h.1 ∧ h.1 ≤ 1000000000000) ∧ h.2.length ≤ 6 ∧ ∀ s ∈ h.2, (0 ≤ s.1 ∧ s.1 ≤ 5) ∧ 1 ≤ s.2 ∧ s.2 ≤ 1000000000 := by
  by_cases h2 : (Txt.split z (":" : Str)).length = 2
  · obtain ⟨a, b, es⟩ := two_len h2
    by_cases k : numr a 0 1000000000000 = none ∨ none ∈ slipsN b ∨ 6 < (slipsN b).length
    · rw [houseN_no es k] at e; cases e
    · cases hi : numr a 0 1000000000000 with
      | none => exact absurd (.inl hi) k
      | some i =>
        have k1 : ¬ none ∈ slipsN b := fun q => k (.inr (.inl q))
        have k2 : ¬ 6 < (slipsN b).length := fun q => k (.inr (.inr q))
        rw [houseN_yes es hi k1 k2] at e
        have e := Option.some.inj e
        subst e
        refine ⟨(numr_some.mp hi).2, Nat.le_trans (List.length_filterMap_le _ _) (by omega), fun s hs => ?_⟩
        obtain ⟨x, hx, ex⟩ := List.mem_filterMap.mp hs
        have ex : x = some s := ex
        subst ex
        obtain ⟨w, _, ew⟩ := List.mem_map.mp hx
        have ep := slipN_some.mp ew
        by_cases h3 : (Txt.split w ("-" : Str)).length = 2
        · obtain ⟨c, d, e3⟩ := two_len h3
          rw [prN_two e3] at ep
          have p1 := (numr_some.mp (congrArg Prod.fst ep)).2
          have p2 := (numr_some.mp (congrArg Prod.snd ep)).2
          exact ⟨p1, p2⟩
        · rw [prN_not fun a b e => h3 (by rw [e]; rfl)] at ep
          cases congrArg Prod.fst ep
  · rw [houseN_not fun a b e => h2 (by rw [e]; rfl)] at e; cases e
abbrev wsN (z : Str) : List Str := Txt.split z (" " : Str)
def p1 (z : Str) (i : Nat) : Prop := ∃ w, (wsN z)[i]? = some w ∧ (houseN w = none ∨ 6 ≤ i)
noncomputable def hsN (z : Str) : List House := ((wsN z).map houseN).filterMap id
def p2 (b : List House) (i : Nat) : Prop := ∃ h, b[i]? = some h ∧ ∃ s ∈ h.2, s.1 = (i : Int) ∨ (b.length : Int) ≤ s.1
theorem p1_lt {z : Str} {i : Nat} (h : p1 z i) : i < (wsN z).length := by obtain ⟨w, e, _⟩ := h; exact (List.getElem?_eq_some_iff.mp e).1
theorem p2_lt {b : List House} {i : Nat} (h : p2 b i) : i < b.length := by obtain ⟨w, e, _⟩ := h; exact (List.getElem?_eq_some_iff.mp e).1
theorem ws_le {z : Str} (h : ∀ j, ¬ p1 z j) : (wsN z).length ≤ 6 := by
  refine Nat.le_of_not_lt fun k => h 6 ⟨(wsN z)[6], List.getElem?_eq_getElem k, .inr (by omega)⟩
theorem hs_some {z : Str} (h : ∀ j, ¬ p1 z j) : (wsN z).map houseN = (hsN z).map some := by
  refine all_some fun k => ?_
  obtain ⟨w, hw, e⟩ := List.mem_map.mp k
  obtain ⟨j, hj, ej⟩ := List.getElem_of_mem hw
  exact h j ⟨w, by rw [List.getElem?_eq_getElem hj, ej], .inl e⟩
theorem hs_len {z : Str} (h : ∀ j, ¬ p1 z j) : (hsN z).length = (wsN z).length := by
  have := congrArg List.length (hs_some h)
  rw [List.length_map, List.length_map] at this; exact this.symm
theorem hs_ok {z : Str} {h : House} (hh : h ∈ hsN z) : (0 ≤ h.1 ∧ h.1 ≤ 1000000000000) ∧ h.2.length ≤ 6 ∧ ∀ s ∈ h.2, (0 ≤ s.1 ∧ s.1 ≤ 5) ∧ 1 ≤ s.2 ∧ s.2 ≤ 1000000000 := by
  obtain ⟨x, hx, ex⟩ := List.mem_filterMap.mp hh
  have ex : x = some h := ex
  subst ex
  obtain ⟨w, _, ew⟩ := List.mem_map.mp hx
  exact houseN_ok ew
abbrev eHs : List House → D := eT (eP eI (eT (eP eI eI)))
theorem F_parse_book_any {z : Str} (hz : TxO 10000 z) {Q : List House → Prop} {E : EK} (k1 : ∀ j, First (p1 z) j → raiseP E "BadText" "index" (eI (j : Int)))
    (k2 : (∀ j, ¬ p1 z j) → ∀ j, First (p2 (hsN z)) j → raiseP E "BadText" "index" (eI (j : Int))) (k3 : (∀ j, ¬ p1 z j) → (∀ j, ¬ p2 (hsN z) j) → Q (hsN z)) : t_parse_book (eS z) Q E := by
  have hw := split_ws tl_blank blank_k hz
  unfold t_parse_book
  refine ⟨szle (by omega), F_words_of hz.1 ?_⟩
  refine forP_first (p1 z) (fun j s => s = (((wsN z).take j).map houseN).filterMap id ∧ s.length = j) ⟨rfl, rfl⟩ (fun i hi => by rw [enI_length]; exact p1_lt hi) (fun j x s hf hx hs N => ?_) (fun j x s hn hx hs N kn => ?_) (fun hn s hs => ?_)
  · obtain ⟨e1, e2⟩ := enI_get hx
    have hm : x.2 ∈ wsN z := List.mem_of_getElem? e2
    obtain ⟨w, ew, hb⟩ := hf.1
    have ew : w = x.2 := by
      have : (wsN z)[j]? = some x.2 := e2
      rw [this] at ew; exact (Option.some.inj ew).symm
    subst ew
    refine F_house_any (hw.get hm) (by omega) ?_
    have kk := k1 j hf
    rw [← e1] at kk
    cases hh : houseN x.2 with
    | none => rw [if_pos (show (none : Option House).isNone = true from rfl)]; exact kk
    | some h =>
      rw [if_neg (by simp)]
      rcases hb with hb | hb
      · rw [hh] at hb; cases hb
      · rw [if_pos (decide_eq_true (by omega))]; exact kk
  · obtain ⟨e1, e2⟩ := enI_get hx
    have hm : x.2 ∈ wsN z := List.mem_of_getElem? e2
    refine F_house_any (hw.get hm) (by omega) ?_
    have h6 : ¬ 6 ≤ j := fun q => hn ⟨x.2, e2, .inr q⟩
    cases hh : houseN x.2 with
    | none => exact absurd ⟨x.2, e2, .inl hh⟩ hn
    | some h =>
      rw [if_neg (by simp), if_neg (by simp; omega)]
      refine ⟨h, rfl, szlt (by omega), kn _ ⟨?_, by rw [List.length_append, hs.2]; rfl⟩⟩
      have e2 : (wsN z)[j]? = some x.2 := e2
      rw [List.take_add_one, e2, List.map_append, List.filterMap_append, ← hs.1]
      show s ++ [h] = s ++ ([houseN x.2].filterMap id)
      rw [hh]; rfl
  · have e : s = hsN z := by
      have := hs.1
      rw [enI_length, List.take_length] at this; exact this
    subst e
    refine forP_first (p2 (hsN z)) (fun _ _ => True) trivial (fun i hi => by rw [enI_length]; exact p2_lt hi) (fun j x s hf hx _ N => ?_) (fun j x s hn2 hx _ N kn => ?_) (fun hn2 s _ => k3 hn hn2)
    · obtain ⟨e1, e2⟩ := enI_get hx
      have hm : x.2 ∈ hsN z := List.mem_of_getElem? e2
      have hl := (hs_ok hm).2.1
      have kk := k2 hn j hf
      rw [← e1] at kk
      refine lc_map (fun a : Slip => decide (a.1 = x.1) || decide (((hsN z).length : Int) ≤ a.1)) (by omega) (fun a ha Y hY => ?_) ?_
      · by_cases ha1 : a.1 = x.1
        · rw [if_pos (decide_eq_true ha1)]; simpa [ha1] using hY
        · rw [if_neg (by simpa using ha1)]; simpa [ha1] using hY
      · obtain ⟨h, eh, t, ht, hc⟩ := hf.1
        have eh : h = x.2 := by rw [e2] at eh; exact (Option.some.inj eh).symm
        subst eh
        rw [if_pos]
        · exact kk
        · rw [List.any_eq_true]
          refine ⟨_, List.mem_map.mpr ⟨t, ht, rfl⟩, ?_⟩
          show (decide (t.1 = x.1) || decide (((hsN z).length : Int) ≤ t.1)) = true
          rw [e1]
          rcases hc with hc | hc
          · simp [hc]
          · simp [hc]
    · obtain ⟨e1, e2⟩ := enI_get hx
      have hm : x.2 ∈ hsN z := List.mem_of_getElem? e2
      have hl := (hs_ok hm).2.1
      refine lc_map (fun a : Slip => decide (a.1 = x.1) || decide (((hsN z).length : Int) ≤ a.1)) (by omega) (fun a ha Y hY => ?_) ?_
      · by_cases ha1 : a.1 = x.1
        · rw [if_pos (decide_eq_true ha1)]; simpa [ha1] using hY
        · rw [if_neg (by simpa using ha1)]; simpa [ha1] using hY
      · rw [if_neg]
        · exact kn () trivial
        · intro q
          rw [List.any_eq_true] at q
          obtain ⟨y, hy, ey⟩ := q
          obtain ⟨t, ht, rfl⟩ := List.mem_map.mp hy
          have ey : (decide (t.1 = x.1) || decide (((hsN z).length : Int) ≤ t.1)) = true := ey
          refine hn2 ⟨x.2, e2, t, ht, ?_⟩
          rw [← e1]
          simpa using ey
theorem data_book (b : List House) : eT (eO (eP eI (eT (eP (eO eI) (eO eI))))) ((b.map ohN).map some) = eHs b := by
  show D.tp _ = D.tp _
  rw [List.map_map, List.map_map]
  refine congrArg D.tp (List.map_congr_left fun h _ => ?_)
  show D.tp [.it h.1, D.tp ((h.2.map fun s => (some s.1, some s.2)).map (eP (eO eI) (eO eI)))] = D.tp [.it h.1, D.tp (h.2.map (eP eI eI))]
  rw [List.map_map]; rfl
theorem F__law_due_book_any {z : Str} (hz : TxO 10000 z) {Q : D → Prop} {E : EK} (k1 : ∀ j, First (p1 z) j → Q (eL eI [(j : Int)]))
    (k2 : (∀ j, ¬ p1 z j) → ∀ j, First (p2 (hsN z)) j → Q (eL eI [(j : Int)])) (k3 : (∀ j, ¬ p1 z j) → (∀ j, ¬ p2 (hsN z) j) → Q (eHs (hsN z))) : t__law_due_book (eS z) Q E := by
  have hw := split_ws tl_blank blank_k hz
  have hw1 := hw.1
  have hz1 := hz.1
  unfold t__law_due_book
  rw [if_neg (by rw [isT_str]; show ¬ ((!true) = true); simp)]
  refine ⟨z, rfl, ⟨by decide, by unfold sizeLine; omega⟩, lc_map (fun w => (houseN w).map ohN) (by omega) (fun w hwm Y hY => F__law_house_of (hw.get hwm) (by omega) hY) ?_⟩
  refine forP_first (p1 z) (fun _ _ => True) trivial (fun i hi => by rw [enI_length, List.length_map]; exact p1_lt hi) (fun j x s hf hx _ N => ?_) (fun j x s hn hx _ N kn => ?_) (fun hn s _ => ?_)
  · obtain ⟨e1, e2⟩ := enI_get hx
    rw [List.getElem?_map] at e2
    obtain ⟨w, ew, hb⟩ := hf.1
    have ew' : (Txt.split z (" " : Str))[j]? = some w := ew
    rw [ew'] at e2
    have e3 : x.2 = (houseN w).map ohN := (Option.some.inj e2).symm
    have kk := k1 j hf
    rw [← e1] at kk
    rw [e3]
    cases hh : houseN w with
    | none => rw [if_pos (show (Option.map ohN none).isNone = true from rfl)]; exact ⟨szle (by omega), kk⟩
    | some h =>
      rw [if_neg (by simp)]
      have h6 : j = 6 := by
        rcases hb with hb | hb
        · rw [hh] at hb; cases hb
        · rcases Nat.lt_or_ge 6 j with q | q
          · have hj := p1_lt hf.1
            exact absurd ⟨(wsN z)[6]'(by omega), List.getElem?_eq_getElem (by omega), .inr (by omega)⟩ (hf.2 6 q)
          · omega
      rw [if_pos (decide_eq_true (by omega))]; exact ⟨szle (by omega), kk⟩
  · obtain ⟨e1, e2⟩ := enI_get hx
    rw [List.getElem?_map] at e2
    cases ew : (Txt.split z (" " : Str))[j]? with
    | none => rw [ew] at e2; cases e2
    | some w =>
      rw [ew] at e2
      have e3 : x.2 = (houseN w).map ohN := (Option.some.inj e2).symm
      rw [e3]
      have h6 : ¬ 6 ≤ j := fun q => hn ⟨w, ew, .inr q⟩
      cases hh : houseN w with
      | none => exact absurd ⟨w, ew, .inl hh⟩ hn
      | some h =>
        rw [if_neg (by simp), if_neg (by simp; omega)]
        exact kn () trivial
  · have ea : (Txt.split z (" " : Str)).map (fun w => (houseN w).map ohN) = ((hsN z).map ohN).map some := by
      have : (Txt.split z (" " : Str)).map (fun w => (houseN w).map ohN) = ((wsN z).map houseN).map (Option.map ohN) := by rw [List.map_map]; rfl
      rw [this, hs_some hn, List.map_map, List.map_map]; rfl
    rw [ea]
    refine ⟨(hsN z).map ohN, rfl, ?_⟩
    refine forP_first (p2 (hsN z)) (fun _ _ => True) trivial (fun i hi => by rw [enI_length, List.length_map]; exact p2_lt hi) (fun j x s hf hx _ N => ?_) (fun j x s hn2 hx _ N kn => ?_) (fun hn2 s _ => by rw [data_book]; exact k3 hn hn2)
    · obtain ⟨e1, e2⟩ := enI_get hx
      rw [List.getElem?_map] at e2
      obtain ⟨h, eh, t, ht, hc⟩ := hf.1
      rw [eh] at e2
      have e3 : x.2 = ohN h := (Option.some.inj e2).symm
      have hl := (hs_ok (List.mem_of_getElem? eh)).2.1
      have kk := k2 hn j hf
      rw [← e1] at kk
      rw [e3]
      refine lc_filter (fun a => match a.1 with | some i => if i = x.1 ∨ ((hsN z).length : Int) ≤ i then some a.1 else none | none => none) (by show (h.2.map _).length ≤ _; rw [List.length_map]; omega) (fun a ha Y M hY hM => ?_) ⟨szle (by omega), ?_⟩
      · obtain ⟨u, hu, rfl⟩ := List.mem_map.mp ha
        refine ⟨rfl, ?_⟩
        show if decide (u.1 = x.1) = true then _ else _
        by_cases hu1 : u.1 = x.1
        · rw [if_pos (decide_eq_true hu1)]
          show if true = true then _ else _
          rw [if_pos rfl]
          exact hY _ (if_pos (.inl hu1))
        · rw [if_neg (by simpa using hu1)]
          refine ⟨u.1, rfl, ?_⟩
          rw [List.length_map, List.length_map]
          show if decide (((hsN z).length : Int) ≤ u.1) = true then _ else _
          by_cases hu2 : ((hsN z).length : Int) ≤ u.1
          · rw [if_pos (decide_eq_true hu2)]; exact hY _ (if_pos (.inr hu2))
          · rw [if_neg (by simpa using hu2)]; exact hM (if_neg (by rintro (q | q); exact hu1 q; exact hu2 q))
      · rw [if_pos]
        · exact ⟨szle (by omega), kk⟩
        · have : ¬ (ohN h).2.filterMap (fun a : Option Int × Option Int => match a.1 with | some i => if i = x.1 ∨ ((hsN z).length : Int) ≤ i then some a.1 else none | none => none) = [] := by
            intro q
            rw [List.filterMap_eq_nil_iff] at q
            have q := q (some t.1, some t.2) (List.mem_map.mpr ⟨t, ht, rfl⟩)
            have q : (if t.1 = x.1 ∨ ((hsN z).length : Int) ≤ t.1 then some (some t.1) else none) = none := q
            rw [if_pos (by rw [e1]; exact hc)] at q; cases q
          rw [← eqB_iff] at this
          simpa using this
    · obtain ⟨e1, e2⟩ := enI_get hx
      rw [List.getElem?_map] at e2
      cases eh : (hsN z)[j]? with
      | none => rw [eh] at e2; cases e2
      | some h =>
        rw [eh] at e2
        have e3 : x.2 = ohN h := (Option.some.inj e2).symm
        have hl := (hs_ok (List.mem_of_getElem? eh)).2.1
        rw [e3]
        refine lc_filter (fun a => (none : Option (Option Int))) (by show (h.2.map _).length ≤ _; rw [List.length_map]; omega) (fun a ha Y M hY hM => ?_) ⟨szle (by omega), ?_⟩
        · obtain ⟨u, hu, rfl⟩ := List.mem_map.mp ha
          have hu1 : ¬ u.1 = x.1 := fun q => hn2 ⟨h, eh, u, hu, .inl (by rw [← e1]; exact q)⟩
          have hu2 : ¬ ((hsN z).length : Int) ≤ u.1 := fun q => hn2 ⟨h, eh, u, hu, .inr q⟩
          refine ⟨rfl, ?_⟩
          show if decide (u.1 = x.1) = true then _ else _
          rw [if_neg (by simpa using hu1)]
          refine ⟨u.1, rfl, ?_⟩
          rw [List.length_map, List.length_map]
          show if decide (((hsN z).length : Int) ≤ u.1) = true then _ else _
          rw [if_neg (by simpa using hu2)]; exact hM rfl
        · rw [show (ohN h).2.filterMap (fun _ => (none : Option (Option Int))) = [] by simp]
          rw [if_neg (by rw [eqBs]; simp)]
          exact kn () trivial
def p3 (b : List House) (z : Str) (i : Nat) : Prop := ∃ w, (wsN z)[i]? = some w ∧ ∀ o, (debtsL b)[i]? = some o → numr w 0 o = none
noncomputable def psN (z : Str) : List Int := ((wsN z).map num).filterMap id
theorem p3_lt {b : List House} {z : Str} {i : Nat} (h : p3 b z i) : i < (wsN z).length := by obtain ⟨w, e, _⟩ := h; exact (List.getElem?_eq_some_iff.mp e).1
theorem p3_no {b : List House} {z : Str} {j : Nat} {w : Str} (h : ¬ p3 b z j) (e : (wsN z)[j]? = some w) : ∃ o, (debtsL b)[j]? = some o ∧ ∃ i, numr w 0 o = some i := by
  cases ho : (debtsL b)[j]? with
  | none => exact absurd ⟨w, e, fun o q => by rw [ho] at q; cases q⟩ h
  | some o =>
    cases hi : numr w 0 o with
    | none => exact absurd ⟨w, e, fun o' q => by rw [ho] at q; cases q; exact hi⟩ h
    | some i => exact ⟨o, rfl, i, hi⟩
theorem F_parse_payments_any {b : List House} (hb : OkBook b) {z : Str} (hz : TxO 10000 z) {Q : List Int → Prop} {E : EK} (k1 : ∀ j, First (p3 b z) j → raiseP E "BadText" "index" (eI (j : Int)))
    (k2 : (∀ j, ¬ p3 b z j) → (wsN z).length < b.length → raiseP E "BadText" "index" (eI ((wsN z).length : Int))) (k3 : (∀ j, ¬ p3 b z j) → ¬ (wsN z).length < b.length → Q (psN z)) : t_parse_payments b (eS z) Q E := by
  have hw := split_ws tl_blank blank_k hz
  have hl := hb.len
  have hdl : (debtsL b).length = b.length := by simp [debtsL]
  unfold t_parse_payments
  refine F_words_of hz.1 (F_debts hb ⟨szle (by omega), ?_⟩)
  refine forP_first (p3 b z) (fun j s => s = (((wsN z).take j).map num).filterMap id ∧ s.length = j) ⟨rfl, rfl⟩ (fun i hi => by rw [enI_length]; exact p3_lt hi) (fun j x s hf hx hs N => ?_) (fun j x s hn hx hs N kn => ?_) (fun hn s hs => ?_)
  · obtain ⟨e1, e2⟩ := enI_get hx
    have hm : x.2 ∈ wsN z := List.mem_of_getElem? e2
    have hx1 := (hw.get hm).1
    obtain ⟨w, ew, hc⟩ := hf.1
    have ew : w = x.2 := by
      have : (wsN z)[j]? = some x.2 := e2
      rw [this] at ew; exact (Option.some.inj ew).symm
    subst ew
    have kk := k1 j hf
    rw [← e1] at kk
    show if decide (((debtsL b).length : Int) ≤ x.1) = true then _ else _
    by_cases hd : (debtsL b).length ≤ j
    · rw [if_pos (decide_eq_true (by omega))]; exact kk
    · rw [if_neg (by simp; omega)]
      have ho := List.getElem?_eq_getElem (l := debtsL b) (i := j) (by omega)
      have hn := hc _ ho
      refine F_number_any (by omega) ⟨_, by rw [e1]; exact atI_nat ho, F_is_integer _ _ _ ?_⟩
      rcases numr_cases x.2 0 ((debtsL b)[j]'(by omega)) with ⟨w1, w2⟩ | ⟨i, w1, w2, w3⟩
      · rw [w1, if_pos (show (!false) = true from rfl)]; exact kk
      · rw [hn] at w3; cases w3
  · obtain ⟨e1, e2⟩ := enI_get hx
    have hm : x.2 ∈ wsN z := List.mem_of_getElem? e2
    have hx1 := (hw.get hm).1
    obtain ⟨o, ho, i, hi⟩ := p3_no hn (show (wsN z)[j]? = some x.2 from e2)
    have hj : j < b.length := by have := (List.getElem?_eq_some_iff.mp ho).1; omega
    show if decide (((debtsL b).length : Int) ≤ x.1) = true then _ else _
    rw [if_neg (by simp; omega)]
    refine F_number_any (by omega) ⟨o, by rw [e1]; exact atI_nat ho, F_is_integer _ _ _ ?_⟩
    rcases numr_cases x.2 0 o with ⟨w1, w2⟩ | ⟨i', w1, w2, w3⟩
    · rw [hi] at w2; cases w2
    · rw [w1, if_neg (by simp)]
      refine F_number_any (by omega) ⟨i', w2, szlt (by omega), kn _ ⟨?_, by rw [List.length_append, hs.2]; rfl⟩⟩
      have e2 : (wsN z)[j]? = some x.2 := e2
      rw [List.take_add_one, e2, List.map_append, List.filterMap_append, ← hs.1]
      show s ++ [i'] = s ++ ([num x.2].filterMap id)
      rw [w2]; rfl
  · have e : s = psN z := by
      have := hs.1
      rw [enI_length, List.take_length] at this; exact this
    have hsl : s.length = (wsN z).length := by have := hs.2; rw [enI_length] at this; exact this
    show if decide ((s.length : Int) < ((debtsL b).length : Int)) = true then _ else _
    by_cases hc : (wsN z).length < b.length
    · rw [if_pos (decide_eq_true (by omega)), hsl]; exact k2 hn hc
    · rw [if_neg (by simp; omega), e]; exact k3 hn hc
theorem F__law_due_payments_any {b : List House} (hb : OkBook b) {z : Str} (hz : TxO 10000 z) {Q : D → Prop} {E : EK} (k1 : ∀ j, First (p3 b z) j → Q (eL eI [(j : Int)]))
    (k2 : (∀ j, ¬ p3 b z j) → (wsN z).length < b.length → Q (eL eI [((wsN z).length : Int)])) (k3 : (∀ j, ¬ p3 b z j) → ¬ (wsN z).length < b.length → Q (eT eI (psN z))) : t__law_due_payments b (eS z) Q E := by
  have hw := split_ws tl_blank blank_k hz
  have hz1 := hz.1
  have hl := hb.len
  have hdl : (debtsL b).length = b.length := by simp [debtsL]
  unfold t__law_due_payments
  rw [if_neg (by rw [isT_str]; show ¬ ((!true) = true); simp)]
  refine F__law_debts hb ⟨szle (by omega), z, rfl, ⟨by decide, by unfold sizeLine; omega⟩, ?_⟩
  refine forP_first (p3 b z) (fun j s => s = (((wsN z).take j).map num).filterMap id ∧ s.length = j) ⟨rfl, rfl⟩ (fun i hi => by rw [enI_length]; exact p3_lt hi) (fun j x s hf hx hs N => ?_) (fun j x s hn hx hs N kn => ?_) (fun hn s hs => ?_)
  · obtain ⟨e1, e2⟩ := enI_get hx
    have hm : x.2 ∈ wsN z := List.mem_of_getElem? e2
    have hx1 := (hw.get hm).1
    obtain ⟨w, ew, hc⟩ := hf.1
    have ew : w = x.2 := by
      have : (wsN z)[j]? = some x.2 := e2
      rw [this] at ew; exact (Option.some.inj ew).symm
    subst ew
    have kk := k1 j hf
    rw [← e1] at kk
    show if decide (((debtsL b).length : Int) ≤ x.1) = true then _ else _
    by_cases hd : (debtsL b).length ≤ j
    · rw [if_pos (decide_eq_true (by omega))]; exact ⟨szle (by omega), kk⟩
    · rw [if_neg (by simp; omega)]
      have ho := List.getElem?_eq_getElem (l := debtsL b) (i := j) (by omega)
      have hn := hc _ ho
      refine ⟨_, by rw [e1]; exact atI_nat ho, F__law_number (by omega) _ _ ?_⟩
      rw [hn, if_pos (show (none : Option Int).isNone = true from rfl)]; exact ⟨szle (by omega), kk⟩
  · obtain ⟨e1, e2⟩ := enI_get hx
    have hm : x.2 ∈ wsN z := List.mem_of_getElem? e2
    have hx1 := (hw.get hm).1
    obtain ⟨o, ho, i, hi⟩ := p3_no hn (show (wsN z)[j]? = some x.2 from e2)
    have hj : j < b.length := by have := (List.getElem?_eq_some_iff.mp ho).1; omega
    show if decide (((debtsL b).length : Int) ≤ x.1) = true then _ else _
    rw [if_neg (by simp; omega)]
    refine ⟨o, by rw [e1]; exact atI_nat ho, F__law_number (by omega) _ _ ?_⟩
    rw [hi, if_neg (by simp)]
    obtain ⟨m, em, hm2⟩ := num_get (numr_some.mp hi).1
    refine ⟨_, num_it hm2, szlt (by omega), kn _ ⟨?_, by rw [List.length_append, hs.2]; rfl⟩⟩
    have e2 : (wsN z)[j]? = some x.2 := e2
    rw [List.take_add_one, e2, List.map_append, List.filterMap_append, ← hs.1]
    show s ++ [(m : Int)] = s ++ ([num x.2].filterMap id)
    rw [num_some hm2]; rfl
  · have e : s = psN z := by
      have := hs.1
      rw [enI_length, List.take_length] at this; exact this
    have hsl : s.length = (wsN z).length := by have := hs.2; rw [enI_length] at this; exact this
    have hle : (wsN z).length ≤ b.length := by
      refine Nat.le_of_not_lt fun q => ?_
      obtain ⟨o, ho, _⟩ := p3_no (hn b.length) (List.getElem?_eq_getElem q)
      have := (List.getElem?_eq_some_iff.mp ho).1
      omega
    show if decide ((s.length : Int) = ((debtsL b).length : Int)) = true then _ else _
    by_cases hc : (wsN z).length < b.length
    · rw [if_neg (by simp; omega), hsl]; exact ⟨szle (by omega), k2 hn hc⟩
    · rw [if_pos (decide_eq_true (by omega)), e]; exact k3 hn hc
end Dl
namespace Dl
open PySem PySem.Spec PyProof.Rows L2
open _root_.TL
def txB (n : Nat) (z : Str) : Bool := decide (z.length ≤ n) && (tl z).all fun c => decide (c < 16 ^ 8)
theorem TxO.ofB {n : Nat} {z : Str} (h : txB n z = true) : TxO n z := by
  unfold txB at h
  rw [Bool.and_eq_true] at h
  refine ⟨by simpa using h.1, fun c hc => ?_⟩
  have := List.all_eq_true.mp h.2 c hc
  simpa using this
theorem all_txB {n : Nat} {L : List Str} (h : L.all (txB n) = true) : ∀ y ∈ L, TxO n y := fun y hy => TxO.ofB (List.all_eq_true.mp h y hy)
theorem TxO.cat {n m : Nat} {a b : Str} (h : TxO n a) (k : TxO m b) : TxO (n + m) (a ++ b) := by
  refine ⟨by rw [len_app]; have := h.1; have := k.1; omega, fun c hc => ?_⟩
  have hc : c ∈ tl (a ++ b) := hc
  rw [tl_cat2, List.mem_append] at hc
  rcases hc with hc | hc
  · exact h.2 c hc
  · exact k.2 c hc
theorem joinL_sum {S : List Nat} : ∀ {ps : List (List Nat)}, (joinL S ps).length ≤ (ps.map List.length).sum + ps.length * S.length
  | [] => by simp [joinL]
  | [p] => by simp only [joinL, List.map_cons, List.map_nil, List.sum_cons, List.sum_nil, List.length_singleton, Nat.one_mul]; omega
  | p :: q :: r => by
    have ih := joinL_sum (S := S) (ps := q :: r)
    rw [joinL, List.length_append, List.length_append, List.map_cons, List.sum_cons]
    simp only [List.length_cons, Nat.succ_mul] at ih ⊢
    omega
theorem joinL_mem {S : List Nat} {c : Nat} : ∀ {ps : List (List Nat)}, c ∈ joinL S ps → c ∈ S ∨ ∃ p ∈ ps, c ∈ p
  | [], h => by simp [joinL] at h
  | [p], h => .inr ⟨p, by simp, by simpa [joinL] using h⟩
  | p :: q :: r, h => by
    rw [joinL, List.mem_append, List.mem_append] at h
    rcases h with h | h | h
    · exact .inr ⟨p, by simp, h⟩
    · exact .inl h
    · rcases joinL_mem (ps := q :: r) h with k | ⟨x, hx, k⟩
      · exact .inl k
      · exact .inr ⟨x, List.mem_cons_of_mem _ hx, k⟩
theorem TxO.join {n c : Nat} {y : Str} {ws : List Str} (ey : tl y = [c]) (hc : c < 16 ^ 8) (h : WsO n ws) : TxO n (Txt.join y ws) := by
  refine ⟨?_, fun d hd => ?_⟩
  · rw [str_len, tl_joinT, ey]
    have := joinL_sum (S := [c]) (ps := ws.map tl)
    rw [List.map_map, List.length_map] at this
    have e2 : ws.map (List.length ∘ tl) = ws.map (·.length) := List.map_congr_left fun w _ => (str_len w).symm
    rw [e2] at this
    have h1 := h.1
    simp only [List.length_singleton, Nat.mul_one] at this
    omega
  · have hd : d ∈ tl (Txt.join y ws) := hd
    rw [tl_joinT, ey] at hd
    rcases joinL_mem hd with k | ⟨p, hp, k⟩
    · rw [List.mem_singleton] at k; subst k; exact hc
    · obtain ⟨w, hw, rfl⟩ := List.mem_map.mp hp
      exact h.2 w hw d k
theorem sum_take (k : Nat) (ws : List Str) : ((ws.take k).map (·.length)).sum ≤ (ws.map (·.length)).sum := by
  have := List.take_append_drop k ws
  have e : ((ws.take k ++ ws.drop k).map (·.length)).sum = (ws.map (·.length)).sum := by rw [this]
  rw [List.map_append, List.sum_append] at e
  omega
theorem sum_drop (k : Nat) (ws : List Str) : ((ws.drop k).map (·.length)).sum ≤ (ws.map (·.length)).sum := by
  have := List.take_append_drop k ws
  have e : ((ws.take k ++ ws.drop k).map (·.length)).sum = (ws.map (·.length)).sum := by rw [this]
  rw [List.map_append, List.sum_append] at e
  omega
theorem WsO.cut {n : Nat} {ws : List Str} (h : WsO n ws) (lo hi : Option Int) : WsO n (cutT ws lo hi) := by
  unfold cutT
  refine ⟨?_, fun w hw => h.2 w (List.mem_of_mem_drop (List.mem_of_mem_take hw))⟩
  have h1 := h.1
  have h2 := sum_take (HT.sIx ws.length ws.length hi - HT.sIx ws.length 0 lo) (ws.drop (HT.sIx ws.length 0 lo))
  have h3 := sum_drop (HT.sIx ws.length 0 lo) ws
  rw [List.length_take, List.length_drop]
  omega
theorem WsO.app {n m : Nat} {a b : List Str} (h : WsO n a) (k : WsO m b) : WsO (n + m) (a ++ b) := by
  refine ⟨?_, fun w hw => ?_⟩
  · rw [List.map_append, List.sum_append, List.length_append]
    have := h.1; have := k.1; omega
  · rcases List.mem_append.mp hw with hw | hw
    · exact h.2 w hw
    · exact k.2 w hw
theorem WsO.rev {n : Nat} {a : List Str} (h : WsO n a) : WsO n a.reverse := by
  refine ⟨?_, fun w hw => h.2 w (List.mem_reverse.mp hw)⟩
  rw [List.map_reverse, List.sum_reverse, List.length_reverse]; exact h.1
theorem TxO.cutS {n : Nat} {z : Str} (h : TxO n z) (lo hi : Option Int) : TxO n (cutS z lo hi) := by
  refine ⟨Nat.le_trans (cutS_length z lo hi) h.1, fun c hc => ?_⟩
  have hc : c ∈ ((z.cps.toList.drop (HT.sIx z.length 0 lo)).take (HT.sIx z.length z.length hi - HT.sIx z.length 0 lo)) := hc
  exact h.2 c (List.mem_of_mem_drop (List.mem_of_mem_take hc))
theorem F_cutS {n : Nat} {z : Str} {lo hi : Option Int} (hz : TxO n z) (hn : n ≤ 100000) {Q : Str → Prop} {E : EK} (k : ∀ y, TxO n y → Q y) : cutSW z lo hi Q E :=
  ⟨szle (by have := hz.1; omega), k _ (hz.cutS lo hi)⟩
def signsL : List Str := [("0" : Str), ("1" : Str), ("9" : Str), (" " : Str), ("-" : Str), (":" : Str), ("," : Str), ("a" : Str), ("+" : Str), ("." : Str), ("" : Str), ("00" : Str), ("  " : Str), ("\n" : Str)]
theorem signs_tx : ∀ y ∈ signsL, TxO 2 y := all_txB (by decide +kernel)
theorem words_pos (z : Str) : 0 < ((Txt.split z (" " : Str)).length : Int) := by
  rw [split_count (by rw [tl_blank]; simp) blank_k]
  unfold PySem.Txt.count
  omega
theorem F__law_changed {n : Nat} {z : Str} (u : Unit) (hz : TxO n z) (hn : n ≤ 20000) {Q : Str → Prop} {E : EK} (k : ∀ y, TxO (2 * n + 10) y → Q y) : t__law_changed u z Q E := by
  have hw := split_ws tl_blank blank_k hz
  have hw1 := hw.1
  have hz1 := hz.1
  have hp := words_pos z
  have e1 : (" " : Str).length = 1 := by decide
  have sn : signsL ≠ [] := by unfold signsL; simp
  have sl : signsL.length ≤ 1000 := by unfold signsL; simp
  unfold t__law_changed
  refine ⟨szle (by omega), draw_in (by omega) (by omega) fun r r0 r1 => ⟨szle (by omega), join_to signsL ?_ fun K hK => hK⟩⟩
  refine F_cutS hz (by omega) fun r2 h2 => one_in sn sl fun r3 h3 => ?_
  have t3 := signs_tx r3 h3
  have l2 := h2.1
  have l3 := t3.1
  refine ⟨szle (by omega), F_cutS hz (by omega) fun r4 h4 => ?_⟩
  have h23 := h2.cat t3
  have h234 := h23.cat h4
  have l23 := h23.1
  have l4 := h4.1
  refine ⟨szle (by omega), F_cutS hz (by omega) fun r5 h5 => F_cutS hz (by omega) fun r6 h6 => ?_⟩
  have h56 := h5.cat h6
  have l5 := h5.1
  have l6 := h6.1
  refine ⟨szle (by omega), one_in sn sl fun r7 h7 => ?_⟩
  have t7 := signs_tx r7 h7
  have h77 := hz.cat t7
  have l7 := t7.1
  refine ⟨szle (by omega), szle (by omega), ⟨by decide, by unfold sizeLine; omega⟩, draw_in hp (by omega) fun r8 a0 a1 => ?_⟩
  have c1 := hw.cut none (some r8)
  have c2 := hw.cut (some (r8 + 1)) none
  have c3 := hw.cut (some r8) none
  have v2 := c1.app c2
  have v3 := hw.app c3
  have v4 := hw.rev
  have m1 := c1.1
  have m2 := c2.1
  have m3 := c3.1
  have m4 := v2.1
  have m5 := v3.1
  have m6 := v4.1
  refine ⟨szle (by omega), join_to _ ?_ fun K hK => hK⟩
  refine ⟨by rw [e1]; omega, szle (by omega), join_to _ ?_ fun K hK => hK⟩
  refine ⟨by rw [e1]; omega, by rw [e1]; omega, szle (by omega), join_to _ ?_ fun K hK => hK⟩
  refine ⟨szle (by simp), F_cutS hz (by omega) fun r9 h9 => one_in sn sl fun r10 h10 => ?_⟩
  have t10 := signs_tx r10 h10
  have l9 := h9.1
  have l10 := t10.1
  refine ⟨szle (by omega), F_cutS hz (by omega) fun r11 h11 => ?_⟩
  have h910 := h9.cat t10
  have h91011 := h910.cat h11
  have l910 := h910.1
  have l11 := h11.1
  have tb : TxO 1 (" " : Str) := TxO.ofB (by decide)
  have hb := tb.cat hz
  have b1 := tb.1
  refine ⟨szle (by omega), szle (by omega), szle (by omega), szle (by simp), one_in (by simp) (by simp) fun y hy => ?_⟩
  have j2 := TxO.join tl_blank (by decide) v2
  have j3 := TxO.join tl_blank (by decide) v3
  have j4 := TxO.join tl_blank (by decide) v4
  simp only [List.mem_append, List.mem_cons, List.not_mem_nil, or_false] at hy
  rcases hy with ((rfl | rfl | rfl) | rfl | rfl | rfl) | rfl | rfl | rfl
  · exact k _ (h234.mono (by omega))
  · exact k _ (h56.mono (by omega))
  · exact k _ (h77.mono (by omega))
  · exact k _ (j2.mono (by omega))
  · exact k _ (j3.mono (by omega))
  · exact k _ (j4.mono (by omega))
  · exact k _ (h91011.mono (by omega))
  · exact k _ (hz.mono (by omega))
  · exact k _ (hb.mono (by omega))
def VOk (d : D) : Prop := (∃ z, d = eS z ∧ TxO 10000 z) ∨ (isT "str" d = false ∧ Fit d)
theorem fit_st {n : Nat} {z : Str} (h : TxO n z) (hn : n ≤ 40000) : Fit (eS z) := ⟨by show okD (.st z); simp only [okD]; exact h.2, by show mass (.st z) ≤ 50000; simp only [mass]; have := h.1; omega, by show deep (.st z) ≤ 150; simp [deep]⟩
theorem VOk.fit {d : D} (h : VOk d) : Fit d := by
  rcases h with ⟨z, rfl, hz⟩ | h
  · exact fit_st hz (by omega)
  · exact h.2
theorem hd_bad {Q : D → Prop} {d : D} (h : Q (eL eA [d])) : raiseP (fun x => x.cls ∈ xcs ∧ (if (!(or (isx x.cls "BadBook") (or (isx x.cls "NoAmount") (or (isx x.cls "NoHouse") (or (isx x.cls "NoIndex") false))))) = true then (if isx x.cls "BadText" = true then ∃ v, x.fs.lookup ("index" : Str) = some v ∧ szOk 1 ∧ Q (eL eA [v]) else szOk 1 ∧ Q (eL eS [("other" : Str)])) else szOk 1 ∧ Q (eL eS [("other" : Str)]))) "BadText" "index" d := by
  unfold raiseP
  refine ⟨by show ("BadText" : Str) ∈ xcs; decide, ?_⟩
  have c1 : or (isx ("BadText" : Str) "BadBook") (or (isx ("BadText" : Str) "NoAmount") (or (isx ("BadText" : Str) "NoHouse") (or (isx ("BadText" : Str) "NoIndex") false))) = false := by decide
  have c2 : isx ("BadText" : Str) "BadText" = true := by decide
  show if (!(or (isx ("BadText" : Str) "BadBook") (or (isx ("BadText" : Str) "NoAmount") (or (isx ("BadText" : Str) "NoHouse") (or (isx ("BadText" : Str) "NoIndex") false))))) = true then (if isx ("BadText" : Str) "BadText" = true then _ else _) else _
  rw [c1, c2, if_pos (by rfl), if_pos rfl]
  exact ⟨d, rfl, szle (by omega), h⟩
theorem F_told_book {z : Str} (hz : TxO 10000 z) {Q : D → Prop} {E : EK} (k1 : ∀ j, First (p1 z) j → Q (eL eI [(j : Int)]))
    (k2 : (∀ j, ¬ p1 z j) → ∀ j, First (p2 (hsN z)) j → Q (eL eI [(j : Int)])) (k3 : (∀ j, ¬ p1 z j) → (∀ j, ¬ p2 (hsN z) j) → Q (eHs (hsN z))) : t__law_told D.non (eS z) Q E := by
  unfold t__law_told
  rw [if_pos (show isNon (eA D.non) = true from rfl)]
  exact F_parse_book_any hz (fun j hj => hd_bad (k1 j hj)) (fun hn j hj => hd_bad (k2 hn j hj)) k3
theorem F_told_pay {b : List House} (hb : OkBook b) {z : Str} (hz : TxO 10000 z) {Q : D → Prop} {E : EK} (k1 : ∀ j, First (p3 b z) j → Q (eL eI [(j : Int)]))
    (k2 : (∀ j, ¬ p3 b z j) → (wsN z).length < b.length → Q (eL eI [((wsN z).length : Int)])) (k3 : (∀ j, ¬ p3 b z j) → ¬ (wsN z).length < b.length → Q (eT eI (psN z))) : t__law_told (eHs b) (eS z) Q E := by
  unfold t__law_told
  rw [if_neg (show ¬ (isNon (eA (eHs b)) = true) by show ¬ (false = true); simp)]
  exact ⟨b, rfl, F_parse_payments_any hb hz (fun j hj => hd_bad (k1 j hj)) (fun hn hl => hd_bad (k2 hn hl)) k3⟩
theorem fit_ix {i : Int} (h0 : 0 ≤ i) (h1 : i ≤ 100000) : Fit (eL eI [i]) := (SmL.one (Sm.it (h := 1) (i := i) (Int.lt_of_lt_of_le (by decide) h0) (Int.lt_of_le_of_lt h1 (by decide)))).ls.fit (by omega) (by omega)
theorem fit_non : Fit (D.ls [D.non]) := (SmL.one (Sm.non (h := 1))).ls.fit (by omega) (by omega)
theorem ok_hs {z : Str} (hn : ∀ j, ¬ p1 z j) (hn2 : ∀ j, ¬ p2 (hsN z) j) : OkBook (hsN z) := by
  have hp := words_pos z
  have h1 := hs_len hn
  have h2 := ws_le hn
  have hp' : 0 < ((wsN z).length : Int) := hp
  refine ⟨by omega, by omega, fun h hh => (hs_ok hh).1, fun h hh => ⟨(hs_ok hh).2.1, fun s hs => ?_, fun s hs => ((hs_ok hh).2.2 s hs).2⟩⟩
  refine ⟨((hs_ok hh).2.2 s hs).1.1, Int.lt_of_not_ge fun q => ?_⟩
  obtain ⟨j, hj, ej⟩ := List.getElem_of_mem hh
  exact hn2 j ⟨h, by rw [List.getElem?_eq_getElem hj, ej], s, hs, .inr q⟩
theorem told_book {v : D} (hv : VOk v) : ∃ d, Fit d ∧ (∀ (Q : D → Prop) (E : EK), Q d → t__law_told D.non v Q E) ∧ (∀ (Q : D → Prop) (E : EK), Q d → t__law_due_book v Q E) := by
  rcases hv with ⟨z, rfl, hz⟩ | ⟨hs, hf⟩
  · have hw := (split_ws tl_blank blank_k hz).1
    rcases first_dec (p1 z) with ⟨j, hj⟩ | hn
    · have hl := p1_lt hj.1
      refine ⟨eL eI [(j : Int)], fit_ix (by omega) (by have hl' : j < (Txt.split z (" " : Str)).length := hl; omega), fun Q E k => ?_, fun Q E k => ?_⟩
      · refine F_told_book hz (fun i hi => ?_) (fun hn => absurd hj.1 (hn j)) (fun hn => absurd hj.1 (hn j))
        have : i = j := first_uniq hi hj
        subst this; exact k
      · refine F__law_due_book_any hz (fun i hi => ?_) (fun hn => absurd hj.1 (hn j)) (fun hn => absurd hj.1 (hn j))
        have : i = j := first_uniq hi hj
        subst this; exact k
    · have hl6 := ws_le hn
      have hll := hs_len hn
      rcases first_dec (p2 (hsN z)) with ⟨j, hj⟩ | hn2
      · have hl := p2_lt hj.1
        refine ⟨eL eI [(j : Int)], fit_ix (by omega) (by omega), fun Q E k => ?_, fun Q E k => ?_⟩
        · refine F_told_book hz (fun i hi => absurd hi.1 (hn i)) (fun _ i hi => ?_) (fun _ hn2 => absurd hj.1 (hn2 j))
          have : i = j := first_uniq hi hj
          subst this; exact k
        · refine F__law_due_book_any hz (fun i hi => absurd hi.1 (hn i)) (fun _ i hi => ?_) (fun _ hn2 => absurd hj.1 (hn2 j))
          have : i = j := first_uniq hi hj
          subst this; exact k
      · have hb := ok_hs hn hn2
        refine ⟨eHs (hsN z), (show Sm 127 4 (eHs (hsN z)) from sm_bookP hb).fit (by omega) (by omega), fun Q E k => ?_, fun Q E k => ?_⟩
        · exact F_told_book hz (fun i hi => absurd hi.1 (hn i)) (fun _ i hi => absurd hi.1 (hn2 i)) (fun _ _ => k)
        · exact F__law_due_book_any hz (fun i hi => absurd hi.1 (hn i)) (fun _ i hi => absurd hi.1 (hn2 i)) (fun _ _ => k)
  · refine ⟨D.ls [D.non], fit_non, fun Q E k => ?_, fun Q E k => ?_⟩
    · unfold t__law_told
      rw [if_pos (show isNon (eA D.non) = true from rfl)]
      unfold t_parse_book t_words_of
      refine ⟨szle (by omega), ?_⟩
      rw [if_pos (show (!(isT "str" (eA v))) = true by show (!(isT "str" v)) = true; rw [hs]; rfl)]
      exact hd_bad k
    · unfold t__law_due_book
      rw [if_pos (show (!(isT "str" (eA v))) = true by show (!(isT "str" v)) = true; rw [hs]; rfl)]
      exact ⟨szle (by omega), k⟩
theorem debts_le {b : List House} (hb : OkBook b) {j : Nat} {o : Int} (h : (debtsL b)[j]? = some o) : o ≤ 1000000000000 := by
  unfold debtsL at h
  rw [List.getElem?_map] at h
  cases e : b[j]? with
  | none => rw [e] at h; cases h
  | some x =>
    rw [e] at h
    have h : sumA x.2 = o := Option.some.inj h
    have hp := hb.pile x (List.mem_of_getElem? e)
    have h1 := sumA_nonneg (ss := x.2) hp.am
    have h2 := hp.len
    omega
theorem fit_pay {b : List House} (hb : OkBook b) {z : Str} (hn : ∀ j, ¬ p3 b z j) : Fit (eT eI (psN z)) := by
  have hl := hb.len
  have hdl : (debtsL b).length = b.length := by simp [debtsL]
  have hle : (wsN z).length ≤ b.length := by
    refine Nat.le_of_not_lt fun q => ?_
    obtain ⟨o, ho, _⟩ := p3_no (hn b.length) (List.getElem?_eq_getElem q)
    have := (List.getElem?_eq_some_iff.mp ho).1
    omega
  refine (sm_ps (n := 6) (Nat.le_trans (List.length_filterMap_le _ _) (by rw [List.length_map]; omega)) fun x hx => ?_).fit (by omega) (by omega)
  obtain ⟨y, hy, ey⟩ := List.mem_filterMap.mp hx
  have ey : y = some x := ey
  subst ey
  obtain ⟨w, hw, ew⟩ := List.mem_map.mp hy
  obtain ⟨j, hj, ej⟩ := List.getElem_of_mem hw
  obtain ⟨o, ho, i, hi⟩ := p3_no (hn j) (show (wsN z)[j]? = some w by rw [List.getElem?_eq_getElem hj, ej])
  have q := numr_some.mp hi
  rw [ew] at q
  have e := Option.some.inj q.1
  have := debts_le hb ho
  omega
theorem told_pay {b : List House} (hb : OkBook b) {v : D} (hv : VOk v) : ∃ d, Fit d ∧ (∀ (Q : D → Prop) (E : EK), Q d → t__law_told (eHs b) v Q E) ∧ (∀ (Q : D → Prop) (E : EK), Q d → t__law_due_payments b v Q E) := by
  have hbl := hb.len
  rcases hv with ⟨z, rfl, hz⟩ | ⟨hs, hf⟩
  · have hw := (split_ws tl_blank blank_k hz).1
    rcases first_dec (p3 b z) with ⟨j, hj⟩ | hn
    · have hl := p3_lt hj.1
      refine ⟨eL eI [(j : Int)], fit_ix (by omega) (by have hl' : j < (Txt.split z (" " : Str)).length := hl; omega), fun Q E k => ?_, fun Q E k => ?_⟩
      · refine F_told_pay hb hz (fun i hi => ?_) (fun hn => absurd hj.1 (hn j)) (fun hn => absurd hj.1 (hn j))
        have : i = j := first_uniq hi hj
        subst this; exact k
      · refine F__law_due_payments_any hb hz (fun i hi => ?_) (fun hn => absurd hj.1 (hn j)) (fun hn => absurd hj.1 (hn j))
        have : i = j := first_uniq hi hj
        subst this; exact k
    · by_cases hc : (wsN z).length < b.length
      · refine ⟨eL eI [((wsN z).length : Int)], fit_ix (by omega) (by omega), fun Q E k => ?_, fun Q E k => ?_⟩
        · exact F_told_pay hb hz (fun i hi => absurd hi.1 (hn i)) (fun _ _ => k) (fun _ q => absurd hc q)
        · exact F__law_due_payments_any hb hz (fun i hi => absurd hi.1 (hn i)) (fun _ _ => k) (fun _ q => absurd hc q)
      · refine ⟨eT eI (psN z), fit_pay hb hn, fun Q E k => ?_, fun Q E k => ?_⟩
        · exact F_told_pay hb hz (fun i hi => absurd hi.1 (hn i)) (fun _ q => absurd q hc) (fun _ _ => k)
        · exact F__law_due_payments_any hb hz (fun i hi => absurd hi.1 (hn i)) (fun _ q => absurd q hc) (fun _ _ => k)
  · refine ⟨D.ls [D.non], fit_non, fun Q E k => ?_, fun Q E k => ?_⟩
    · unfold t__law_told
      rw [if_neg (show ¬ (isNon (eA (eHs b)) = true) by show ¬ (false = true); simp)]
      refine ⟨b, rfl, ?_⟩
      unfold t_parse_payments t_words_of
      rw [if_pos (show (!(isT "str" (eA v))) = true by show (!(isT "str" v)) = true; rw [hs]; rfl)]
      exact hd_bad k
    · unfold t__law_due_payments
      rw [if_pos (show (!(isT "str" (eA v))) = true by show (!(isT "str" v)) = true; rw [hs]; rfl)]
      exact ⟨szle (by omega), k⟩
theorem dig_small {n c : Nat} (h : c ∈ numL n) : c < 16 ^ 8 := by
  have h1 := numL_dig h
  have h2 : (16 : Nat) ^ 8 = 4294967296 := by decide
  omega
theorem num_small {i : Int} (h : NumOk i) {c : Nat} (hc : c ∈ tl (strI i)) : c < 16 ^ 8 := by
  obtain ⟨n, _, _, e⟩ := h.nat
  rw [e] at hc; exact dig_small hc
theorem book_tx {b : List House} (hl : b.length ≤ 6) (hs : ∀ x ∈ b, HsOk x) : TxO 1098 (bookT b) := by
  refine ⟨bookT_len hl hs, fun c hc => ?_⟩
  have hc : c ∈ tl (bookT b) := hc
  unfold bookT at hc
  rw [tl_joinT, tl_blank] at hc
  rcases joinL_mem hc with k | ⟨p, hp, k⟩
  · rw [List.mem_singleton] at k; subst k; decide
  · obtain ⟨w, hw, rfl⟩ := List.mem_map.mp hp
    obtain ⟨x, hx, rfl⟩ := List.mem_map.mp hw
    obtain ⟨h1, h2, h3⟩ := hs x hx
    rw [tl_houseT, List.mem_append, List.mem_cons] at k
    rcases k with k | k | k
    · exact num_small h1 k
    · subst k; decide
    · unfold pileT at k
      rw [tl_joinT, tl_comma] at k
      rcases joinL_mem k with k | ⟨q, hq, k⟩
      · rw [List.mem_singleton] at k; subst k; decide
      · obtain ⟨w2, hw2, rfl⟩ := List.mem_map.mp hq
        obtain ⟨s, hs2, rfl⟩ := List.mem_map.mp hw2
        obtain ⟨g1, g2⟩ := h3 s hs2
        rw [tl_slipT, List.mem_append, List.mem_cons] at k
        rcases k with k | k | k
        · exact num_small g1 k
        · subst k; decide
        · exact num_small g2 k
theorem pay_tx {ps : List Int} (hl : ps.length ≤ 6) (hs : ∀ x ∈ ps, NumOk x) : TxO 1098 (payT ps) := by
  refine ⟨Nat.le_trans (payT_len hl hs) (by omega), fun c hc => ?_⟩
  have hc : c ∈ tl (payT ps) := hc
  unfold payT at hc
  rw [tl_joinT, tl_blank] at hc
  rcases joinL_mem hc with k | ⟨p, hp, k⟩
  · rw [List.mem_singleton] at k; subst k; decide
  · obtain ⟨w, hw, rfl⟩ := List.mem_map.mp hp
    obtain ⟨x, hx, rfl⟩ := List.mem_map.mp hw
    exact num_small (hs x hx) k
theorem reps_mem {c : Nat} {a : Array Nat} : ∀ (k : Nat) (acc : Array Nat), c ∈ ((List.replicate k a).foldl (· ++ ·) acc).toList → c ∈ acc.toList ∨ c ∈ a.toList
  | 0, acc, h => .inl h
  | k + 1, acc, h => by
    rw [List.replicate_succ, List.foldl_cons] at h
    rcases reps_mem k _ h with q | q
    · rw [Array.toList_append, List.mem_append] at q; exact q
    · exact .inr q
theorem nines_tx : TxO 5000 (PySem.Txt.mul ("9" : Str) 5000) := by
  refine ⟨?_, fun c hc => ?_⟩
  · have := len_mul ("9" : Str) 5000
    have e1 : ("9" : Str).length = 1 := by decide
    rw [e1, if_neg (by decide)] at this
    omega
  · unfold PySem.Txt.mul at hc
    rw [if_neg (by decide), if_neg (by decide)] at hc
    rcases reps_mem _ _ hc with q | q
    · simp at q
    · have e9 : ("9" : Str).cps.toList = [57] := by decide
      rw [e9, List.mem_singleton] at q; subst q; decide
theorem VOk.st {n : Nat} {z : Str} (h : TxO n z) (hn : n ≤ 10000) : VOk (eS z) := .inl ⟨z, rfl, h.mono hn⟩
theorem VOk.lit {z : Str} (h : txB 10000 z = true) : VOk (eS z) := .inl ⟨z, rfl, TxO.ofB h⟩
theorem VOk.odd {d : D} (h : Sm 14 3 d) : VOk d := by
  cases hd : isT "str" d with
  | false => exact .inr ⟨hd, h.fit (by omega) (by omega)⟩
  | true =>
    rw [isT_str] at hd
    cases d <;> simp only [isStr, Bool.false_eq_true] at hd
    next z =>
      have h1 := h.ok
      have h2 := h.m
      simp only [okD] at h1
      simp only [mass] at h2
      exact .inl ⟨z, rfl, by omega, h1⟩
theorem sm_st {n : Nat} {z : Str} (h : TxO n z) : Sm (1 + n) 1 (.st z) := ⟨by simp only [okD]; exact h.2, by simp only [mass]; have := h.1; omega, by simp [deep]⟩
def house7 (a : Int) : Str := ("0:" : Str) ++ Txt.join ("," : Str) (List.replicate a.toNat [("1-1" : Str)]).flatten ++ (" 0:" : Str)
def b6 : List House := [(0, List.replicate 6 (1, 1)), (0, [])]
theorem b6_good : GoodB b6 := goodC_ok (by decide +kernel)
theorem text6 : house7 6 = bookT b6 := by decide +kernel
theorem num_lit {z : Str} {n : Nat} (h : z = strI (n : Int)) (hl : z.length ≤ 13) : num z = some (n : Int) := num_some ⟨h, hl⟩
theorem text7 : First (p1 (house7 7)) 0 := by
  refine ⟨⟨("0:1-1,1-1,1-1,1-1,1-1,1-1,1-1" : Str), ?_, .inl ?_⟩, fun i hi => absurd hi (by omega)⟩
  · have : wsN (house7 7) = [("0:1-1,1-1,1-1,1-1,1-1,1-1,1-1" : Str), ("0:" : Str)] := by decide +kernel
    rw [this]; rfl
  · refine houseN_no (a := ("0" : Str)) (b := ("1-1,1-1,1-1,1-1,1-1,1-1,1-1" : Str)) (by decide +kernel) (.inr (.inr ?_))
    unfold slipsN partsN
    rw [if_neg (by decide), List.length_map]
    decide +kernel
theorem textR : First (p1 ("1000000000001:" : Str)) 0 := by
  refine ⟨⟨("1000000000001:" : Str), ?_, .inl ?_⟩, fun i hi => absurd hi (by omega)⟩
  · have : wsN ("1000000000001:" : Str) = [("1000000000001:" : Str)] := by decide +kernel
    rw [this]; rfl
  · refine houseN_no (a := ("1000000000001" : Str)) (b := ("" : Str)) (by decide +kernel) (.inl ?_)
    rw [numr_eq, num_lit (n := 1000000000001) (by decide +kernel) (by decide +kernel)]
    decide
theorem tell_bad {z : Str} (hz : TxO 10000 z) (h : First (p1 z) 0) {Q : D → Prop} {E : EK} (k : Q (eL eI [0])) : t__law_told D.non (eS z) Q E :=
  F_told_book hz (fun i hi => by have := first_uniq hi h; subst this; exact k) (fun hn => absurd h.1 (hn 0)) (fun hn => absurd h.1 (hn 0))
theorem tell6 {Q : D → Prop} {E : EK} (k : Q (eHs b6)) : t__law_told D.non (eS (house7 6)) Q E := by
  unfold t__law_told
  rw [if_pos (show isNon (eA D.non) = true from rfl), text6]
  exact F_parse_book b6_good k
theorem pk2 (a c x : Int) (hx : 0 ≤ x) : ∃ y, atI [a, c] (x % 2) = some y ∧ (y = a ∨ y = c) := by
  rcases (by omega : x % 2 = 0 ∨ x % 2 = 1) with h | h
  · rw [h]; exact ⟨a, rfl, .inl rfl⟩
  · rw [h]; exact ⟨c, rfl, .inr rfl⟩
theorem pk3 (a c d x : Int) (hx : 0 ≤ x) : ∃ y, atI [a, c, d] (x % 3) = some y ∧ (y = a ∨ y = c ∨ y = d) := by
  rcases (by omega : x % 3 = 0 ∨ x % 3 = 1 ∨ x % 3 = 2) with h | h | h
  · rw [h]; exact ⟨a, rfl, .inl rfl⟩
  · rw [h]; exact ⟨c, rfl, .inr (.inl rfl)⟩
  · rw [h]; exact ⟨d, rfl, .inr (.inr rfl)⟩
theorem tl : t_law (fun b => b = true) (fun _ => False) := by
  have e9 : (10 : Int) ^ (9 : Int).toNat = 1000000000 := by decide
  unfold t_law
  refine ⟨in62_of (by omega) (by omega), forP_all _ (fun x hx N k => ?_) ?_⟩
  · have hx := mem_rgI.mp hx
    obtain ⟨m, hm, hm2⟩ := pk2 6 3 x hx.1
    obtain ⟨s, hs, hs2⟩ := pk2 6 2 x hx.1
    obtain ⟨w, hw, hw2⟩ := pk3 9 ((10 : Int) ^ (9 : Int).toNat) 9 x hx.1
    rw [e9] at hw2
    refine ⟨szle (by omega), by omega, m, hm, szle (by omega), by omega, s, hs, cpow_dec (by decide), szle (by omega), by omega, w, hw, ?_⟩
    refine F__law_book () ⟨by omega, by omega⟩ ⟨by omega, by omega⟩ ⟨by omega, by omega⟩ fun b hb hbl _ _ => ?_
    have hl6 := hb.len
    have hso := okB_hs hb.toOkBook
    refine F_book_text hl6 hso (F__law_payments hb.toOkBook () fun ps hps => ?_)
    have hpl := hps.length
    have hpm := hps.mem hb.toOkBook.l
    have hn : ∀ x ∈ ps, NumOk x := fun x hx => by have := hpm x hx; exact ⟨by omega, by omega⟩
    refine F_payments_text (by omega) hn ?_
    have tb := book_tx hl6 hso
    have tp := pay_tx (by omega) hn
    generalize bookT b = zb at tb
    generalize payT ps = zp at tp
    refine fun r5 h5 => ⟨szle (by omega), join_P (fun l => l.length = 10 ∧ ∀ d ∈ l, VOk d) (fun v hv => ?_) fun K hK => hK _ ⟨rfl, fun d hd => ?_⟩⟩
    · have n5 := nines_tx
      refine ⟨⟨by omega, by omega, by decide⟩, ?_⟩
      generalize PySem.Txt.mul ("9" : Str) 5000 = z9 at n5
      have c1 := n5.cat (TxO.ofB (n := 1) (z := (":" : Str)) (by decide))
      have c2 := (TxO.ofB (n := 4) (z := ("0:1-" : Str)) (by decide)).cat n5
      have c3 := c2.cat (TxO.ofB (n := 3) (z := (" 0:" : Str)) (by decide))
      have c4 := (TxO.ofB (n := 2) (z := ("0:" : Str)) (by decide)).cat n5
      have c5 := c4.cat (TxO.ofB (n := 2) (z := ("-1" : Str)) (by decide))
      have d0 := n5.1
      have g1 : (":" : Str).length = 1 := by decide
      have g2 : ("0:1-" : Str).length = 4 := by decide
      have g3 : (" 0:" : Str).length = 3 := by decide
      have g4 : ("0:" : Str).length = 2 := by decide
      have g5 : ("-1" : Str).length = 2 := by decide
      have d2 := c2.1
      have d4 := c4.1
      refine ⟨szle (by omega), szle (by omega), szle (by omega), szle (by omega), szle (by omega), szle (by omega), szle (by omega), szle (by omega), join_P (fun l => l.length = 7 ∧ ∀ d ∈ l, VOk d) (fun v2 hv2 => ?_) fun K hK => hK _ ⟨rfl, fun d hd => ?_⟩⟩
      · have q1 := hv.1
        have q2 := hv2.1
        refine ⟨szle (by omega), szle (by omega), szle (by omega), one_in (by simp) (by simp) fun r7 h7 => ?_⟩
        have h7 : r7 = 6 ∨ r7 = 7 := by simpa using h7
        refine ⟨⟨by omega, by omega, szle (by show 1 * r7.toNat ≤ _; omega)⟩, join_P (fun l => WsO 30 l) (fun v3 hv3 => ?_) fun K hK => hK _ ?_⟩
        · have w1 := hv3.1
          have gb : (" " : Str).length = 1 := by decide
          have j3 := TxO.join tl_blank (by decide) hv3
          refine ⟨by rw [gb]; omega, szlt (by rw [List.length_append]; omega), in62_of (by omega) (by omega), ?_⟩
          refine forP_ix (fun j l => l.length = 18 + 4 * j ∧ ∀ d ∈ l, VOk d) ⟨by rw [List.length_append, List.length_append, q1, q2]; rfl, fun d hd => ?_⟩ (fun l hl => ?_) (fun j y l hy hl N2 k2 => ?_)
          · rcases List.mem_append.mp hd with hd | hd
            · rcases List.mem_append.mp hd with hd | hd
              · exact hv.2 d hd
              · exact hv2.2 d hd
            · rw [List.mem_singleton] at hd; subst hd; exact VOk.st j3 (by omega)
          · refine forP_all _ (fun y hy N2 k2 => ?_) k
            have hv := hl.2 y hy
            obtain ⟨d, fd, t1, t2⟩ := told_book hv
            obtain ⟨d', fd', t3, t4⟩ := told_pay hb.toOkBook hv
            exact ⟨hv.fit, t1 _ _ ⟨fd, t2 _ _ ⟨fd, ne_self (t3 _ _ ⟨fd', t4 _ _ ⟨fd', ne_self ⟨hv.fit, ne_self k2⟩⟩⟩)⟩⟩⟩
          · have hj := (rgI_get hy).2
            refine F__law_changed () tb (by omega) fun r8 h8 => F__law_changed () tp (by omega) fun r9 h9 => F__law_changed () h8 (by omega) fun r10 h10 => F__law_changed () h9 (by omega) fun r11 h11 => ?_
            have l0 := hl.1
            refine ⟨szle (by omega), szle (by rw [l0]; simp; omega), k2 _ ⟨by rw [List.length_append, l0]; simp; omega, fun d hd => ?_⟩⟩
            rcases List.mem_append.mp hd with hd | hd
            · exact hl.2 d hd
            · simp only [List.mem_cons, List.not_mem_nil, or_false] at hd
              rcases hd with rfl | rfl | rfl | rfl
              · exact VOk.st h8 (by omega)
              · exact VOk.st h9 (by omega)
              · exact VOk.st h10 (by omega)
              · exact VOk.st h11 (by omega)
        · have a1 : WsO 30 (List.replicate (6 : Int).toNat [("0:" : Str)]).flatten := ⟨by decide, fun w hw => (TxO.ofB (n := 2) (by
            have : w = ("0:" : Str) := by
              obtain ⟨l, hl, hw⟩ := List.mem_flatten.mp hw
              rw [(List.mem_replicate.mp hl).2] at hw
              simpa using hw
            rw [this]; decide)).2⟩
          have a2 : WsO 30 (List.replicate (7 : Int).toNat [("0:" : Str)]).flatten := ⟨by decide, fun w hw => (TxO.ofB (n := 2) (by
            have : w = ("0:" : Str) := by
              obtain ⟨l, hl, hw⟩ := List.mem_flatten.mp hw
              rw [(List.mem_replicate.mp hl).2] at hw
              simpa using hw
            rw [this]; decide)).2⟩
          rcases h7 with rfl | rfl
          · exact a1
          · exact a2
      · simp only [List.mem_cons, List.not_mem_nil, or_false] at hd
        rcases hd with rfl | rfl | rfl | rfl | rfl | rfl | rfl
        · exact .inr ⟨by rw [isT_str]; rfl, (SmL.one (sm_st tb)).ls.fit (by omega) (by omega)⟩
        · exact .inr ⟨by rw [isT_str]; rfl, (SmL.one (sm_st tb)).tp.fit (by omega) (by omega)⟩
        · exact .inr ⟨by rw [isT_str]; rfl, (Sm.non (h := 1)).fit (by omega) (by omega)⟩
        · exact VOk.st n5 (by omega)
        · exact VOk.st c1 (by omega)
        · exact VOk.st c3 (by omega)
        · exact VOk.st c5 (by omega)
    · simp only [List.mem_cons, List.not_mem_nil, or_false] at hd
      rcases hd with rfl | rfl | rfl | rfl | rfl | rfl | rfl | rfl | rfl | rfl
      · exact VOk.st tb (by omega)
      · exact VOk.st tp (by omega)
      · exact VOk.lit (by decide +kernel)
      · exact VOk.lit (by decide +kernel)
      · exact VOk.lit (by decide +kernel)
      · exact VOk.lit (by decide +kernel)
      · exact VOk.lit (by decide +kernel)
      · exact VOk.lit (by decide +kernel)
      · exact VOk.lit (by decide +kernel)
      · exact VOk.odd h5
  · refine ⟨szle (by omega), lc_map house7 (by simp) (fun a ha Y hY => ?_) ?_⟩
    · have ha : a = 6 ∨ a = 7 := by simpa using ha
      have g1 : ("," : Str).length = 1 := by decide
      have a1 : WsO 60 (List.replicate a.toNat [("1-1" : Str)]).flatten := by
        have a2 : ∀ w ∈ (List.replicate a.toNat [("1-1" : Str)]).flatten, w = ("1-1" : Str) := fun w hw => by
          obtain ⟨l, hl, hw⟩ := List.mem_flatten.mp hw
          rw [(List.mem_replicate.mp hl).2] at hw
          simpa using hw
        refine ⟨?_, fun w hw => by rw [a2 w hw]; exact (TxO.ofB (n := 3) (by decide)).2⟩
        rcases ha with rfl | rfl
        · decide
        · decide
      have hj := (TxO.join tl_comma (by decide) a1).1
      have hs := a1.1
      have g2 : ("0:" : Str).length = 2 := by decide
      have g3 : (" 0:" : Str).length = 3 := by decide
      refine ⟨szle (by omega), ⟨by omega, by omega, szle (by show 1 * a.toNat ≤ _; omega)⟩, join_to _ ?_ fun K hK => hK⟩
      refine ⟨by rw [g1]; omega, szle (by omega), szle (by rw [len_app]; omega), hY⟩
    · have t6 : TxO 10000 (house7 6) := TxO.ofB (by decide +kernel)
      have t7 : TxO 10000 (house7 7) := TxO.ofB (by decide +kernel)
      have tR : TxO 10000 ("1000000000001:" : Str) := TxO.ofB (by decide +kernel)
      refine ⟨house7 6, rfl, ?_⟩
      have hF : Fit (eHs b6) := (show Sm 127 4 (eHs b6) from sm_bookP b6_good.toOkBook).fit (by omega) (by omega)
      have rest : Fit (eA (eHs b6)) ∧ szOk 1 ∧ (-(2 ^ 63) ≤ (6 : Int) ∧ (6 : Int) ≤ 1000 ∧ [((1 : Int), (1 : Int))].length ≤ 1000) ∧ szOk 0 ∧ Fit (eHs b6) := ⟨hF, szle (by omega), ⟨by omega, by omega, by simp⟩, szle (by omega), hF⟩
      refine tell6 ⟨rest.1, rest.2.1, rest.2.2.1, rest.2.2.2.1, hF, ?_⟩
      refine ne_self (x := (eHs b6).py.shown) ⟨house7 7, rfl, ?_⟩
      refine tell_bad t7 text7 (tell_bad tR textR ⟨szle (by omega), szle (by omega), szle (by omega), szle (by omega), ?_⟩)
      refine ⟨(eq_L (eq_L eq_I)).cmp (by omega) [[(0 : Int)], [(0 : Int)]] [[(0 : Int)], [(0 : Int)]], ?_⟩
      exact ((eq_L (eq_L eq_I)).inj [[(0 : Int)], [(0 : Int)]] [[(0 : Int)], [(0 : Int)]]).mpr rfl
end Dl
namespace Dl
open PySem PySem.Spec PyProof.Rows L2
theorem cpow {i j : Int} (h : (decide (0 ≤ j) && decide (j ≤ 1000000) && decide (i.natAbs < 2 ^ 64)) = true) : CPow i j := by
  simp only [Bool.and_eq_true, decide_eq_true_eq] at h
  exact ⟨h.1.1, h.1.2, h.2⟩
theorem sm_all {m h : Nat} {xs : List D} (e : (xs.all fun d => okB d && decide (mass d ≤ m) && decide (deep d ≤ h)) = true) {d : D} (hd : d ∈ xs) : Sm m h d := sm_dec (List.all_eq_true.mp e d hd)
theorem atI_some {xs : List D} {r : Int} (h0 : 0 ≤ r) (h1 : r < xs.length) : ∃ y, atI xs r = some y ∧ y ∈ xs := by
  obtain ⟨j, rfl⟩ : ∃ j : Nat, r = (j : Int) := ⟨r.toNat, by omega⟩
  have hj : j < xs.length := by omega
  exact ⟨xs[j], atI_nat (List.getElem?_eq_getElem hj), List.getElem_mem _⟩
theorem len__law_one : ∀ ds Q E, sp__law_one ds Q E → ds.length = 2 := by
  intro ds Q E h; unfold sp__law_one at h; split at h
  · rfl
  · exact h.elim
theorem law__law_one : ∀ ds Q E, sp__law_one ds Q E → d__law_one { nx := fun _ => Q .non, rt := Q, ex := E } (dstart 2 ds) := by
  intro ds Q E h
  unfold sp__law_one at h
  split at h
  · next P x =>
    obtain ⟨rfl, h⟩ := h
    split at h
    · next ys e =>
      obtain ⟨h0, h1, h2⟩ := h
      have h3 := List.length_pos_iff.mpr h0
      have key : ∀ r : Int, 0 ≤ r → r < ys.length → ∃ y, atI ys r = some y ∧ Q y := fun r a b => by
        obtain ⟨y, e1, e2⟩ := atI_some a b
        exact ⟨y, e1, h2 y e2⟩
      cases x with
      | tp zs =>
        cases e
        show d__law_one _ [.v dBox, .v (.tp ys)]
        simp only [d__law_one, d__law_one_0, r__law_one_0, dVar, dC, dOp, dTst, dAnd, dOr, dNot, dAndV, dOrV, dNotV, dIf, dNil, dCons, dStar, dTup, dLst, dCB, oAdd, oI, oI0, oSub, oFdiv, oMod, oPow, oLt, oLe, oGt, oGe, oMulA, dNeg, dChain, dIsN, dNotN, dIsi, oLen, oIx, oSl, dNoPart, dPart, dSl, oList, oTuple, dNext, dSeq, dBreak, dContinue, dRet, dRetN, dDrop, dIfS, dgName, dgNil, dgCons, dgTup, dAsg, dSet, dPar, dParO, dAug, dFrz, dSeqI, dRng1, dRng2, dEnum, dZip, dFor, dYes, dLc, dSetN, dSetO, dLstN, dCatN, dRepN, dListN, dApp, dCall, oRepr, oEq, oNe, oIn, oNotIn, dRev, dDic0, dDic1, oInt, oAbs, oSum, oMaxL, oMinL, oAny, oAll, dLend, dbLend, dFrzS, dSetIx, dAugIx, oAddN, oSubN, oStrN, oEqNilT, szl0, szl1, szl2, szl3, szl4, szl5, szl6, szl7, szl8, true_and, List.getElem?_cons_zero, List.getElem?_cons_succ, List.set_cons_zero, List.set_cons_succ]
        refine ⟨ys.length, rfl, by omega, by omega, fun r a b => ?_⟩
        obtain ⟨y, e1, e2⟩ := key r a b
        show (match atI ys r with | some d => Q d | none => False)
        rw [e1]; exact e2
      | ls zs =>
        cases e
        show d__law_one _ [.v dBox, .v (.ls ys)]
        simp only [d__law_one, d__law_one_0, r__law_one_0, dVar, dC, dOp, dTst, dAnd, dOr, dNot, dAndV, dOrV, dNotV, dIf, dNil, dCons, dStar, dTup, dLst, dCB, oAdd, oI, oI0, oSub, oFdiv, oMod, oPow, oLt, oLe, oGt, oGe, oMulA, dNeg, dChain, dIsN, dNotN, dIsi, oLen, oIx, oSl, dNoPart, dPart, dSl, oList, oTuple, dNext, dSeq, dBreak, dContinue, dRet, dRetN, dDrop, dIfS, dgName, dgNil, dgCons, dgTup, dAsg, dSet, dPar, dParO, dAug, dFrz, dSeqI, dRng1, dRng2, dEnum, dZip, dFor, dYes, dLc, dSetN, dSetO, dLstN, dCatN, dRepN, dListN, dApp, dCall, oRepr, oEq, oNe, oIn, oNotIn, dRev, dDic0, dDic1, oInt, oAbs, oSum, oMaxL, oMinL, oAny, oAll, dLend, dbLend, dFrzS, dSetIx, dAugIx, oAddN, oSubN, oStrN, oEqNilT, szl0, szl1, szl2, szl3, szl4, szl5, szl6, szl7, szl8, true_and, List.getElem?_cons_zero, List.getElem?_cons_succ, List.set_cons_zero, List.set_cons_succ]
        refine ⟨ys.length, rfl, by omega, by omega, fun r a b => ?_⟩
        obtain ⟨y, e1, e2⟩ := key r a b
        show (match atI ys r with | some d => Q d | none => False)
        rw [e1]; exact e2
      | _ => cases e
    · exact h.elim
  · exact h.elim
theorem len__law_odd : ∀ ds Q E, sp__law_odd ds Q E → ds.length = 1 := by
  rintro ds Q E ⟨rfl, _⟩; rfl
theorem law__law_odd : ∀ ds Q E, sp__law_odd ds Q E → d__law_odd { nx := fun _ => Q .non, rt := Q, ex := E } (dstart 2 ds) := by
  rintro ds Q E ⟨rfl, h⟩
  show d__law_odd _ [.v dBox, .no]
  simp only [d__law_odd, d__law_odd_2, r__law_odd_2, d__law_odd_1, r__law_odd_1, d__law_odd_0, r__law_odd_0, dVar, dC, dOp, dTst, dAnd, dOr, dNot, dAndV, dOrV, dNotV, dIf, dNil, dCons, dStar, dTup, dLst, dCB, oAdd, oI, oI0, oSub, oFdiv, oMod, oPow, oLt, oLe, oGt, oGe, oMulA, dNeg, dChain, dIsN, dNotN, dIsi, oLen, oIx, oSl, dNoPart, dPart, dSl, oList, oTuple, dNext, dSeq, dBreak, dContinue, dRet, dRetN, dDrop, dIfS, dgName, dgNil, dgCons, dgTup, dAsg, dSet, dPar, dParO, dAug, dFrz, dSeqI, dRng1, dRng2, dEnum, dZip, dFor, dYes, dLc, dSetN, dSetO, dLstN, dCatN, dRepN, dListN, dApp, dCall, oRepr, oEq, oNe, oIn, oNotIn, dRev, dDic0, dDic1, oInt, oAbs, oSum, oMaxL, oMinL, oAny, oAll, dLend, dbLend, dFrzS, dSetIx, dAugIx, oAddN, oSubN, oStrN, oEqNilT, szl0, szl1, szl2, szl3, szl4, szl5, szl6, szl7, szl8, true_and, List.getElem?_cons_zero, List.getElem?_cons_succ, List.set_cons_zero, List.set_cons_succ]
  refine ⟨cpow rfl, cpow rfl, cpow rfl, cpow rfl, by show 17 ≤ sizeLine; decide, by show 11 ≤ sizeLine; decide, by show 28 ≤ sizeLine; decide, rfl, by simp, by show 28 ≤ 1000; decide, fun y hy => h y (sm_all (by decide +kernel) hy)⟩
def spLaw (K : PySem.W.Frag) : Sp := fun vs H Q _ => ∃ (a : Addr) (ns : List Int), vs = [.ref a] ∧ SqL K H a (ns.map V.int) ∧ ∀ H', Q (.bl true) H'
def spOpen (K : PySem.W.Frag) : Sp := fun vs H Q _ => ∃ (a : Addr) (ns : List Int), vs = [.ref a] ∧ SqL K H a (ns.map V.int) ∧ ∀ H' b g s gs ss t, B1 b g s H' gs ss t → (∀ a o, H a = some o → H' a = some o) → H b = none → H g = none → H s = none → Q (.ref b) H'
section
variable {P : Program} {w : World} {K : PySem.W.Frag} {mg : Str → Option Value} {base : Heap}
def tH (sp : Sp) (E : XK) (t : TA) : L2.TE := fun σ H Q => t σ H fun vs H1 => sp vs H1 Q E
theorem pe_hcall {X : Cx} {E : XK} {k : Nat} {f : Addr} {fd : FuncData} {ps : List Str} {sp : Sp} {x : Str} {p pos : Pos} {e : Expr} {es : List Expr} {t : TA} (F : HFn X.prog X.w X.K X.mg X.base k f fd ps sp) (hr : Room k X.A) (hgd : X.A.guards = some []) (hg : Gl X x) (hm : X.mg x = some (.ref f)) (kp : PySem.W.keepIn X.K (.ref f) = true)
    (hb : Binds X.K fd ps []) (hx : Passes (L2.CX X.prog X.w) X E) (ha : PA X (e :: es) t) (hdb : (x == ("__debug__" : Str)) = false := by decide) (he : starEach (e :: es) X.env = (false, eval e X.env) :: starEach es X.env := by rfl) (hpl : (backTo pos (starEach es X.env)).any (·.1) = false := by rfl) :
    PE X (.Call (.Name x p) (e :: es) [] pos) (tH sp E t) := by
  refine ⟨fun pins s σ H Q I h => wpAny_Call_Name_kw (ld_glob I hg hm ?_ hdb)⟩
  refine PySem.W.callWith_K (h₀ := X.base) I.ok.mod.kin kp (thn (ha.run pos pins s σ H _ I h) fun us s1 ⟨vs, H1, I1, r, hs⟩ => ⟨I1.kIn, ?_⟩) he hpl
  have hl : us.length = ps.length := by rw [← r.length]; exact F.len _ _ _ _ hs
  have b := hb s1 us I1.kIn (by rw [List.append_nil]; exact hl)
  rw [List.append_nil] at b
  refine wpAny_call (codeAny_mono (F.run X.A X.stack s1 H1 ⟨us, []⟩ us vs Q E hr hgd I1.env0 b r hs) fun res s' hq => ?_)
  match res, hq with
  | .error e, hq => exact hx pins σ H1 s1 e s' I1 hq
  | .ok (.ret u), hq => exact I1.after hq
  | .ok .next, hq => exact False.elim hq
  | .ok .brk, hq => exact False.elim hq
  | .ok .cont, hq => exact False.elim hq
theorem h_law {f fo : Addr} {fd fdo : FuncData} (F : Fun K "law" "law" s_law f fd) (G : Gs K mg) (hsys : ∃ o, base.get? sysModules = some o) (O : HFn P w K mg base 1 fo fdo ["_law_script"] (spOpen K)) (mo : mg "_law_opened" = some (.ref fo)) (ko : PySem.W.keepIn K (.ref fo) = true) (bo : Binds K fdo ["_law_script"] []) (C__law_book : Cal P w K mg base 5 "_law_book" ["_law_box", "_law_most", "_law_size", "_law_wide"] sp__law_book) (C__law_changed : Cal P w K mg base 5 "_law_changed" ["_law_box", "_law_text"] sp__law_changed) (C__law_due_book : Cal P w K mg base 5 "_law_due_book" ["_law_value"] sp__law_due_book) (C__law_due_payments : Cal P w K mg base 5 "_law_due_payments" ["_law_book_here", "_law_value"] sp__law_due_payments) (C__law_odd : Cal P w K mg base 5 "_law_odd" ["_law_box"] sp__law_odd) (C__law_one : Cal P w K mg base 5 "_law_one" ["_law_box", "_law_items"] sp__law_one) (C__law_payments : Cal P w K mg base 5 "_law_payments" ["_law_box", "_law_book_here"] sp__law_payments) (C__law_told : Cal P w K mg base 5 "_law_told" ["_law_book_here", "_law_value"] sp__law_told) (C_book_text : Cal P w K mg base 5 "book_text" ["book"] sp_book_text) (C_payments_text : Cal P w K mg base 5 "payments_text" ["payments"] sp_payments_text) :
    HFn P w K mg base 6 f fd ["_law_script"] (spLaw K) := by
  refine hfn_mk F sc_law (fun vs H Q E ⟨_, _, e, _⟩ => by rw [e]; rfl) fun cdv A outer s0 H vs Q E hr hgd h => ?_
  obtain ⟨a, ns, rfl, hS, kq⟩ := h
  obtain ⟨t, p, q⟩ := (w_law G hsys C__law_book C__law_changed C__law_due_book C__law_due_payments C__law_odd C__law_one C__law_payments C__law_told C_book_text C_payments_text cdv A outer s0 H E hr hgd).run
  refine ⟨_, pss_cons (ps_set (i := 1) sc_law.nd rfl (by first | exact Or.inl rfl | exact Or.inr rfl) (pe_hcall O (hr.mono (by decide)) hgd rfl mo ko bo passD (pa_cons (pv 0) pa_nil))) p, ?_⟩
  refine ⟨_, rfl, a, ns, rfl, hS, fun H' b g s gs ss t' hB _ _ _ _ => ?_⟩
  have g1 : Good ⟨some (b1 b g s), fun _ => none⟩ H' := ⟨fun _ _ e => (by have e' : (none : Option HO) = some _ := e; cases e'), fun x e => (by cases (show some (b1 b g s) = some x from e); exact ⟨gs, ss, t', hB⟩), fun _ _ => rfl⟩
  have r1 : Rel H' ⟨some (b1 b g s), fun _ => none⟩ H' [some (.ref a), some (.ref b), none, none, none, none, none, none, none, none, none, none, none, none] [.no, .v dBox, .no, .no, .no, .no, .no, .no, .no, .no, .no, .no, .no, .no] := (rel_no [some (.ref a), none, none, none, none, none, none, none, none, none, none, none, none, none]).put (i := 1) (x := .ref b) (Rp.bx (x := (b1 b g s)) rfl ⟨b, g, s, rfl⟩)
  refine q ⟨⟨some (b1 b g s), fun _ => none⟩, H', fun _ => none, some (b1 b g s)⟩ { nx := fun _ => False, rt := fun x => x = .bl true, ex := fun _ => False } _ ⟨fun _ _ _ _ _ _ h => h.elim, fun _ _ _ _ _ _ h => h.elim, fun _ _ _ _ _ _ h => h.elim, fun S v d H2 _ rv hd => ?_, xl_none⟩ _ _ _ H' ⟨g1, .refl _ _, .refl _ _⟩ r1 (tlaw_law tl .no)
  subst hd
  cases rv
  exact kq H2
end
theorem all_mk {P : Program} {w : World} {K : PySem.W.Frag} {h : Heap} {mg : Str → Option Value} {fa : Addr} (X : K.In h) (N : h.Ns mainGlobals mg) (hfa : mg "law" = some (.ref fa))
    {f0 : Addr} {od0 an0 : Option Addr} {sl0 : Array (Option Value)} {oc0 kV0 dc0 pm0 cd0 ct0 : Value} (a0 : PySem.W.nsIn K mainGlobals "_law_debts" = some (some (.ref f0))) (l0 : K.lookup f0 = some ⟨oc0, od0, .func (PySem.W.fnOf "_law_debts" "_law_debts" (defArgs s__law_debts) (defBody s__law_debts) (defScope s__law_debts) .none kV0 dc0 pm0 an0 cd0 ct0), sl0⟩) (c0 : PySem.W.codeIn K cd0 "_law_debts" = true) (k0 : PySem.W.keepIn K (.ref f0) = true)
    {f1 : Addr} {od1 an1 : Option Addr} {sl1 : Array (Option Value)} {oc1 kV1 dc1 pm1 cd1 ct1 : Value} (a1 : PySem.W.nsIn K mainGlobals "_law_draw" = some (some (.ref f1))) (l1 : K.lookup f1 = some ⟨oc1, od1, .func (PySem.W.fnOf "_law_draw" "_law_draw" (defArgs s__law_draw) (defBody s__law_draw) (defScope s__law_draw) .none kV1 dc1 pm1 an1 cd1 ct1), sl1⟩) (c1 : PySem.W.codeIn K cd1 "_law_draw" = true) (k1 : PySem.W.keepIn K (.ref f1) = true)
    {f2 : Addr} {od2 an2 : Option Addr} {sl2 : Array (Option Value)} {oc2 kV2 dc2 pm2 cd2 ct2 : Value} (a2 : PySem.W.nsIn K mainGlobals "_law_number" = some (some (.ref f2))) (l2 : K.lookup f2 = some ⟨oc2, od2, .func (PySem.W.fnOf "_law_number" "_law_number" (defArgs s__law_number) (defBody s__law_number) (defScope s__law_number) .none kV2 dc2 pm2 an2 cd2 ct2), sl2⟩) (c2 : PySem.W.codeIn K cd2 "_law_number" = true) (k2 : PySem.W.keepIn K (.ref f2) = true)
    {f3 : Addr} {od3 an3 : Option Addr} {sl3 : Array (Option Value)} {oc3 kV3 dc3 pm3 cd3 ct3 : Value} (a3 : PySem.W.nsIn K mainGlobals "debt_of" = some (some (.ref f3))) (l3 : K.lookup f3 = some ⟨oc3, od3, .func (PySem.W.fnOf "debt_of" "debt_of" (defArgs s_debt_of) (defBody s_debt_of) (defScope s_debt_of) .none kV3 dc3 pm3 an3 cd3 ct3), sl3⟩) (c3 : PySem.W.codeIn K cd3 "debt_of" = true) (k3 : PySem.W.keepIn K (.ref f3) = true)
    {f4 : Addr} {od4 an4 : Option Addr} {sl4 : Array (Option Value)} {oc4 kV4 dc4 pm4 cd4 ct4 : Value} (a4 : PySem.W.nsIn K mainGlobals "is_integer" = some (some (.ref f4))) (l4 : K.lookup f4 = some ⟨oc4, od4, .func (PySem.W.fnOf "is_integer" "is_integer" (defArgs s_is_integer) (defBody s_is_integer) (defScope s_is_integer) .none kV4 dc4 pm4 an4 cd4 ct4), sl4⟩) (c4 : PySem.W.codeIn K cd4 "is_integer" = true) (k4 : PySem.W.keepIn K (.ref f4) = true)
    {f5 : Addr} {od5 an5 : Option Addr} {sl5 : Array (Option Value)} {oc5 kV5 dc5 pm5 cd5 ct5 : Value} (a5 : PySem.W.nsIn K mainGlobals "number_in" = some (some (.ref f5))) (l5 : K.lookup f5 = some ⟨oc5, od5, .func (PySem.W.fnOf "number_in" "number_in" (defArgs s_number_in) (defBody s_number_in) (defScope s_number_in) .none kV5 dc5 pm5 an5 cd5 ct5), sl5⟩) (c5 : PySem.W.codeIn K cd5 "number_in" = true) (k5 : PySem.W.keepIn K (.ref f5) = true)
    {f6 : Addr} {od6 an6 : Option Addr} {sl6 : Array (Option Value)} {oc6 kV6 dc6 pm6 cd6 ct6 : Value} (a6 : PySem.W.nsIn K mainGlobals "payments_text" = some (some (.ref f6))) (l6 : K.lookup f6 = some ⟨oc6, od6, .func (PySem.W.fnOf "payments_text" "payments_text" (defArgs s_payments_text) (defBody s_payments_text) (defScope s_payments_text) .none kV6 dc6 pm6 an6 cd6 ct6), sl6⟩) (c6 : PySem.W.codeIn K cd6 "payments_text" = true) (k6 : PySem.W.keepIn K (.ref f6) = true)
    {f7 : Addr} {od7 an7 : Option Addr} {sl7 : Array (Option Value)} {oc7 kV7 dc7 pm7 cd7 ct7 : Value} (a7 : PySem.W.nsIn K mainGlobals "slip_text" = some (some (.ref f7))) (l7 : K.lookup f7 = some ⟨oc7, od7, .func (PySem.W.fnOf "slip_text" "slip_text" (defArgs s_slip_text) (defBody s_slip_text) (defScope s_slip_text) .none kV7 dc7 pm7 an7 cd7 ct7), sl7⟩) (c7 : PySem.W.codeIn K cd7 "slip_text" = true) (k7 : PySem.W.keepIn K (.ref f7) = true)
    {f8 : Addr} {od8 an8 : Option Addr} {sl8 : Array (Option Value)} {oc8 kV8 dc8 pm8 cd8 ct8 : Value} (a8 : PySem.W.nsIn K mainGlobals "words_of" = some (some (.ref f8))) (l8 : K.lookup f8 = some ⟨oc8, od8, .func (PySem.W.fnOf "words_of" "words_of" (defArgs s_words_of) (defBody s_words_of) (defScope s_words_of) .none kV8 dc8 pm8 an8 cd8 ct8), sl8⟩) (c8 : PySem.W.codeIn K cd8 "words_of" = true) (k8 : PySem.W.keepIn K (.ref f8) = true)
    {f9 : Addr} {od9 an9 : Option Addr} {sl9 : Array (Option Value)} {oc9 kV9 dc9 pm9 cd9 ct9 : Value} (a9 : PySem.W.nsIn K mainGlobals "_law_due_payments" = some (some (.ref f9))) (l9 : K.lookup f9 = some ⟨oc9, od9, .func (PySem.W.fnOf "_law_due_payments" "_law_due_payments" (defArgs s__law_due_payments) (defBody s__law_due_payments) (defScope s__law_due_payments) .none kV9 dc9 pm9 an9 cd9 ct9), sl9⟩) (c9 : PySem.W.codeIn K cd9 "_law_due_payments" = true) (k9 : PySem.W.keepIn K (.ref f9) = true)
    {f10 : Addr} {od10 an10 : Option Addr} {sl10 : Array (Option Value)} {oc10 kV10 dc10 pm10 cd10 ct10 : Value} (a10 : PySem.W.nsIn K mainGlobals "_law_house_of" = some (some (.ref f10))) (l10 : K.lookup f10 = some ⟨oc10, od10, .func (PySem.W.fnOf "_law_house_of" "_law_house_of" (defArgs s__law_house_of) (defBody s__law_house_of) (defScope s__law_house_of) .none kV10 dc10 pm10 an10 cd10 ct10), sl10⟩) (c10 : PySem.W.codeIn K cd10 "_law_house_of" = true) (k10 : PySem.W.keepIn K (.ref f10) = true)
    {f11 : Addr} {od11 an11 : Option Addr} {sl11 : Array (Option Value)} {oc11 kV11 dc11 pm11 cd11 ct11 : Value} (a11 : PySem.W.nsIn K mainGlobals "_law_one" = some (some (.ref f11))) (l11 : K.lookup f11 = some ⟨oc11, od11, .func (PySem.W.fnOf "_law_one" "_law_one" (defArgs s__law_one) (defBody s__law_one) (defScope s__law_one) .none kV11 dc11 pm11 an11 cd11 ct11), sl11⟩) (c11 : PySem.W.codeIn K cd11 "_law_one" = true) (k11 : PySem.W.keepIn K (.ref f11) = true)
    {f12 : Addr} {od12 an12 : Option Addr} {sl12 : Array (Option Value)} {oc12 kV12 dc12 pm12 cd12 ct12 : Value} (a12 : PySem.W.nsIn K mainGlobals "debts" = some (some (.ref f12))) (l12 : K.lookup f12 = some ⟨oc12, od12, .func (PySem.W.fnOf "debts" "debts" (defArgs s_debts) (defBody s_debts) (defScope s_debts) .none kV12 dc12 pm12 an12 cd12 ct12), sl12⟩) (c12 : PySem.W.codeIn K cd12 "debts" = true) (k12 : PySem.W.keepIn K (.ref f12) = true)
    {f13 : Addr} {od13 an13 : Option Addr} {sl13 : Array (Option Value)} {oc13 kV13 dc13 pm13 cd13 ct13 : Value} (a13 : PySem.W.nsIn K mainGlobals "house_text" = some (some (.ref f13))) (l13 : K.lookup f13 = some ⟨oc13, od13, .func (PySem.W.fnOf "house_text" "house_text" (defArgs s_house_text) (defBody s_house_text) (defScope s_house_text) .none kV13 dc13 pm13 an13 cd13 ct13), sl13⟩) (c13 : PySem.W.codeIn K cd13 "house_text" = true) (k13 : PySem.W.keepIn K (.ref f13) = true)
    {f14 : Addr} {od14 an14 : Option Addr} {sl14 : Array (Option Value)} {oc14 kV14 dc14 pm14 cd14 ct14 : Value} (a14 : PySem.W.nsIn K mainGlobals "slip_in" = some (some (.ref f14))) (l14 : K.lookup f14 = some ⟨oc14, od14, .func (PySem.W.fnOf "slip_in" "slip_in" (defArgs s_slip_in) (defBody s_slip_in) (defScope s_slip_in) .none kV14 dc14 pm14 an14 cd14 ct14), sl14⟩) (c14 : PySem.W.codeIn K cd14 "slip_in" = true) (k14 : PySem.W.keepIn K (.ref f14) = true)
    {f15 : Addr} {od15 an15 : Option Addr} {sl15 : Array (Option Value)} {oc15 kV15 dc15 pm15 cd15 ct15 : Value} (a15 : PySem.W.nsIn K mainGlobals "_law_changed" = some (some (.ref f15))) (l15 : K.lookup f15 = some ⟨oc15, od15, .func (PySem.W.fnOf "_law_changed" "_law_changed" (defArgs s__law_changed) (defBody s__law_changed) (defScope s__law_changed) .none kV15 dc15 pm15 an15 cd15 ct15), sl15⟩) (c15 : PySem.W.codeIn K cd15 "_law_changed" = true) (k15 : PySem.W.keepIn K (.ref f15) = true)
    {f16 : Addr} {od16 an16 : Option Addr} {sl16 : Array (Option Value)} {oc16 kV16 dc16 pm16 cd16 ct16 : Value} (a16 : PySem.W.nsIn K mainGlobals "_law_due_book" = some (some (.ref f16))) (l16 : K.lookup f16 = some ⟨oc16, od16, .func (PySem.W.fnOf "_law_due_book" "_law_due_book" (defArgs s__law_due_book) (defBody s__law_due_book) (defScope s__law_due_book) .none kV16 dc16 pm16 an16 cd16 ct16), sl16⟩) (c16 : PySem.W.codeIn K cd16 "_law_due_book" = true) (k16 : PySem.W.keepIn K (.ref f16) = true)
    {f17 : Addr} {od17 an17 : Option Addr} {sl17 : Array (Option Value)} {oc17 kV17 dc17 pm17 cd17 ct17 : Value} (a17 : PySem.W.nsIn K mainGlobals "_law_odd" = some (some (.ref f17))) (l17 : K.lookup f17 = some ⟨oc17, od17, .func (PySem.W.fnOf "_law_odd" "_law_odd" (defArgs s__law_odd) (defBody s__law_odd) (defScope s__law_odd) .none kV17 dc17 pm17 an17 cd17 ct17), sl17⟩) (c17 : PySem.W.codeIn K cd17 "_law_odd" = true) (k17 : PySem.W.keepIn K (.ref f17) = true)
    {f18 : Addr} {od18 an18 : Option Addr} {sl18 : Array (Option Value)} {oc18 kV18 dc18 pm18 cd18 ct18 : Value} (a18 : PySem.W.nsIn K mainGlobals "_law_payments" = some (some (.ref f18))) (l18 : K.lookup f18 = some ⟨oc18, od18, .func (PySem.W.fnOf "_law_payments" "_law_payments" (defArgs s__law_payments) (defBody s__law_payments) (defScope s__law_payments) .none kV18 dc18 pm18 an18 cd18 ct18), sl18⟩) (c18 : PySem.W.codeIn K cd18 "_law_payments" = true) (k18 : PySem.W.keepIn K (.ref f18) = true)
    {f19 : Addr} {od19 an19 : Option Addr} {sl19 : Array (Option Value)} {oc19 kV19 dc19 pm19 cd19 ct19 : Value} (a19 : PySem.W.nsIn K mainGlobals "_law_pile" = some (some (.ref f19))) (l19 : K.lookup f19 = some ⟨oc19, od19, .func (PySem.W.fnOf "_law_pile" "_law_pile" (defArgs s__law_pile) (defBody s__law_pile) (defScope s__law_pile) .none kV19 dc19 pm19 an19 cd19 ct19), sl19⟩) (c19 : PySem.W.codeIn K cd19 "_law_pile" = true) (k19 : PySem.W.keepIn K (.ref f19) = true)
    {f20 : Addr} {od20 an20 : Option Addr} {sl20 : Array (Option Value)} {oc20 kV20 dc20 pm20 cd20 ct20 : Value} (a20 : PySem.W.nsIn K mainGlobals "book_text" = some (some (.ref f20))) (l20 : K.lookup f20 = some ⟨oc20, od20, .func (PySem.W.fnOf "book_text" "book_text" (defArgs s_book_text) (defBody s_book_text) (defScope s_book_text) .none kV20 dc20 pm20 an20 cd20 ct20), sl20⟩) (c20 : PySem.W.codeIn K cd20 "book_text" = true) (k20 : PySem.W.keepIn K (.ref f20) = true)
    {f21 : Addr} {od21 an21 : Option Addr} {sl21 : Array (Option Value)} {oc21 kV21 dc21 pm21 cd21 ct21 : Value} (a21 : PySem.W.nsIn K mainGlobals "house_in" = some (some (.ref f21))) (l21 : K.lookup f21 = some ⟨oc21, od21, .func (PySem.W.fnOf "house_in" "house_in" (defArgs s_house_in) (defBody s_house_in) (defScope s_house_in) .none kV21 dc21 pm21 an21 cd21 ct21), sl21⟩) (c21 : PySem.W.codeIn K cd21 "house_in" = true) (k21 : PySem.W.keepIn K (.ref f21) = true)
    {f22 : Addr} {od22 an22 : Option Addr} {sl22 : Array (Option Value)} {oc22 kV22 dc22 pm22 cd22 ct22 : Value} (a22 : PySem.W.nsIn K mainGlobals "parse_payments" = some (some (.ref f22))) (l22 : K.lookup f22 = some ⟨oc22, od22, .func (PySem.W.fnOf "parse_payments" "parse_payments" (defArgs s_parse_payments) (defBody s_parse_payments) (defScope s_parse_payments) .none kV22 dc22 pm22 an22 cd22 ct22), sl22⟩) (c22 : PySem.W.codeIn K cd22 "parse_payments" = true) (k22 : PySem.W.keepIn K (.ref f22) = true)
    {f23 : Addr} {od23 an23 : Option Addr} {sl23 : Array (Option Value)} {oc23 kV23 dc23 pm23 cd23 ct23 : Value} (a23 : PySem.W.nsIn K mainGlobals "_law_book" = some (some (.ref f23))) (l23 : K.lookup f23 = some ⟨oc23, od23, .func (PySem.W.fnOf "_law_book" "_law_book" (defArgs s__law_book) (defBody s__law_book) (defScope s__law_book) .none kV23 dc23 pm23 an23 cd23 ct23), sl23⟩) (c23 : PySem.W.codeIn K cd23 "_law_book" = true) (k23 : PySem.W.keepIn K (.ref f23) = true)
    {f24 : Addr} {od24 an24 : Option Addr} {sl24 : Array (Option Value)} {oc24 kV24 dc24 pm24 cd24 ct24 : Value} (a24 : PySem.W.nsIn K mainGlobals "parse_book" = some (some (.ref f24))) (l24 : K.lookup f24 = some ⟨oc24, od24, .func (PySem.W.fnOf "parse_book" "parse_book" (defArgs s_parse_book) (defBody s_parse_book) (defScope s_parse_book) .none kV24 dc24 pm24 an24 cd24 ct24), sl24⟩) (c24 : PySem.W.codeIn K cd24 "parse_book" = true) (k24 : PySem.W.keepIn K (.ref f24) = true)
    {f25 : Addr} {od25 an25 : Option Addr} {sl25 : Array (Option Value)} {oc25 kV25 dc25 pm25 cd25 ct25 : Value} (a25 : PySem.W.nsIn K mainGlobals "_law_told" = some (some (.ref f25))) (l25 : K.lookup f25 = some ⟨oc25, od25, .func (PySem.W.fnOf "_law_told" "_law_told" (defArgs s__law_told) (defBody s__law_told) (defScope s__law_told) .none kV25 dc25 pm25 an25 cd25 ct25), sl25⟩) (c25 : PySem.W.codeIn K cd25 "_law_told" = true) (k25 : PySem.W.keepIn K (.ref f25) = true)
    {f26 : Addr} {od26 an26 : Option Addr} {sl26 : Array (Option Value)} {oc26 kV26 dc26 pm26 cd26 ct26 : Value} (a26 : PySem.W.nsIn K mainGlobals "_law_opened" = some (some (.ref f26))) (l26 : K.lookup f26 = some ⟨oc26, od26, .func (PySem.W.fnOf "_law_opened" "_law_opened" (defArgs s__law_opened) (defBody s__law_opened) (defScope s__law_opened) .none kV26 dc26 pm26 an26 cd26 ct26), sl26⟩) (c26 : PySem.W.codeIn K cd26 "_law_opened" = true) (k26 : PySem.W.keepIn K (.ref f26) = true)
    {f27 : Addr} {od27 an27 : Option Addr} {sl27 : Array (Option Value)} {oc27 kV27 dc27 pm27 cd27 ct27 : Value} (a27 : PySem.W.nsIn K mainGlobals "law" = some (some (.ref f27))) (l27 : K.lookup f27 = some ⟨oc27, od27, .func (PySem.W.fnOf "law" "law" (defArgs s_law) (defBody s_law) (defScope s_law) .none kV27 dc27 pm27 an27 cd27 ct27), sl27⟩) (c27 : PySem.W.codeIn K cd27 "law" = true) (k27 : PySem.W.keepIn K (.ref f27) = true)
    (z_ValueError : PySem.W.nsIn K mainGlobals "ValueError" = some none) (z_abs : PySem.W.nsIn K mainGlobals "abs" = some none) (z_all : PySem.W.nsIn K mainGlobals "all" = some none) (z_any : PySem.W.nsIn K mainGlobals "any" = some none) (z_bool : PySem.W.nsIn K mainGlobals "bool" = some none) (z_enumerate : PySem.W.nsIn K mainGlobals "enumerate" = some none) (z_int : PySem.W.nsIn K mainGlobals "int" = some none) (z_isinstance : PySem.W.nsIn K mainGlobals "isinstance" = some none) (z_len : PySem.W.nsIn K mainGlobals "len" = some none) (z_max : PySem.W.nsIn K mainGlobals "max" = some none) (z_min : PySem.W.nsIn K mainGlobals "min" = some none) (z_range : PySem.W.nsIn K mainGlobals "range" = some none) (z_repr : PySem.W.nsIn K mainGlobals "repr" = some none) (z_str : PySem.W.nsIn K mainGlobals "str" = some none) (z_sum : PySem.W.nsIn K mainGlobals "sum" = some none) (z_tuple : PySem.W.nsIn K mainGlobals "tuple" = some none)
    {v_DIGITS : Value} (m_DIGITS : PySem.W.nsIn K mainGlobals "DIGITS" = some (some v_DIGITS)) (r_DIGITS : RelV (.str "0123456789") v_DIGITS)
    {v_LONGEST : Value} (m_LONGEST : PySem.W.nsIn K mainGlobals "LONGEST" = some (some v_LONGEST)) (r_LONGEST : RelV (.int 13) v_LONGEST)
    {v_MAX_AMOUNT : Value} (m_MAX_AMOUNT : PySem.W.nsIn K mainGlobals "MAX_AMOUNT" = some (some v_MAX_AMOUNT)) (r_MAX_AMOUNT : RelV (.int 1000000000) v_MAX_AMOUNT)
    {v_MAX_HOUSES : Value} (m_MAX_HOUSES : PySem.W.nsIn K mainGlobals "MAX_HOUSES" = some (some v_MAX_HOUSES)) (r_MAX_HOUSES : RelV (.int 6) v_MAX_HOUSES)
    {v_MAX_PURSE : Value} (m_MAX_PURSE : PySem.W.nsIn K mainGlobals "MAX_PURSE" = some (some v_MAX_PURSE)) (r_MAX_PURSE : RelV (.int 1000000000000) v_MAX_PURSE)
    {v_MAX_SLIPS : Value} (m_MAX_SLIPS : PySem.W.nsIn K mainGlobals "MAX_SLIPS" = some (some v_MAX_SLIPS)) (r_MAX_SLIPS : RelV (.int 6) v_MAX_SLIPS)
    {X_SlipError : Addr} {X_BadText : Addr} {X_BadBook : Addr} {X_NoAmount : Addr} {X_NoHouse : Addr} {X_NoIndex : Addr}
    (xa_SlipError : PySem.W.nsIn K mainGlobals "SlipError" = some (some (.ref X_SlipError)))
    (xa_BadText : PySem.W.nsIn K mainGlobals "BadText" = some (some (.ref X_BadText)))
    (xa_BadBook : PySem.W.nsIn K mainGlobals "BadBook" = some (some (.ref X_BadBook)))
    (xa_NoAmount : PySem.W.nsIn K mainGlobals "NoAmount" = some (some (.ref X_NoAmount)))
    (xa_NoHouse : PySem.W.nsIn K mainGlobals "NoHouse" = some (some (.ref X_NoHouse)))
    (xa_NoIndex : PySem.W.nsIn K mainGlobals "NoIndex" = some (some (.ref X_NoIndex)))
    (xbE : PySem.W.subIn K (.ref X_SlipError) (.type "BaseException") = some true)
    (xbD : PySem.W.hasDictIn K X_SlipError = true)
    (xbT : PySem.W.typeIn K (.ref X_SlipError) = some (.type "type"))
    (xhn : PySem.W.specialIn K (.builtin "object.__class__") "__get__" = some (some (.builtin "getset_descriptor.__get__")))
    (xht : PySem.W.takesIn K (.builtin "object.__class__") = some true)
    {nm_BadText q_BadText : Str} {N_BadText I_BadText : Addr} {bs_BadText : List Value} {sn_BadText : List Str} {sub_BadText : List Value} {ab_BadText : Bool} {col_BadText : Option Bool} {dd_BadText od_BadText an_BadText : Option Addr} {m0_BadText m1_BadText m2_BadText m3_BadText m5_BadText : Option Value} {sl_BadText : Array (Option Value)} {oc_BadText dc_BadText pm_BadText cd_BadText ct_BadText : Value} {p1_BadText p2_BadText q1_BadText q2_BadText q3_BadText q4_BadText : Pos}
    (xl_BadText : K.lookup X_BadText = some (excClassObj nm_BadText q_BadText X_BadText N_BadText bs_BadText [.ref X_SlipError, .type "ValueError", .type "Exception", .type "BaseException", .type "object"] true sn_BadText sub_BadText ab_BadText col_BadText dd_BadText m0_BadText m1_BadText m2_BadText m3_BadText m5_BadText "ValueError.__new__"))
    (xsa_BadText : PySem.W.findIn K (.ref X_BadText) "__setattr__" = some (some (.builtin "object.__setattr__")))
    (xga_BadText : PySem.W.findIn K (.ref X_BadText) "__getattribute__" = some (some (.builtin "BaseException.__getattribute__")))
    (xgg_BadText : PySem.W.findIn K (.ref X_BadText) "__getattr__" = some none)
    (xha_BadText : PySem.W.findIn K (.ref X_BadText) "__class__" = some (some (.builtin "object.__class__")))
    (xhm_BadText : PySem.W.mroIn K X_BadText (.type "object") = some true)
    (xf_BadText_index : PySem.W.findIn K (.ref X_BadText) "index" = some none)
    (xi_BadText : PySem.W.findIn K (.ref X_BadText) "__init__" = some (some (.ref I_BadText)))
    (xit_BadText : PySem.W.typeIn K (.ref I_BadText) = some (.type "function"))
    (xil_BadText : K.lookup I_BadText = some ⟨oc_BadText, od_BadText, .func (PySem.W.fnOf "__init__" "BadText.__init__" (PySem.SlipX.iA_index p1_BadText p2_BadText) (PySem.SlipX.iB_index q1_BadText q2_BadText q3_BadText q4_BadText) PySem.SlipX.iS_index .none .none dc_BadText pm_BadText an_BadText cd_BadText ct_BadText), sl_BadText⟩)
    (xic_BadText : PySem.W.codeIn K cd_BadText "BadText.__init__" = true)
    (xk_BadText : PySem.W.keepIn K (.ref X_BadText) = true)
    (xe_BadText : PySem.W.subIn K (.ref X_BadText) (.type "BaseException") = some true)
    (xty_BadText : PySem.W.typeIn K (.ref X_BadText) = some (.type "type"))
    (xd_BadText : PySem.W.hasDictIn K X_BadText = true)
    (xm_BadText : PySem.W.subIn K (.ref X_BadText) (.ref X_SlipError) = some true)
    (xv_BadText : PySem.W.kitOne K (.ref X_BadText) (.type "ValueError") = some true)
    (xt_BadText_BadBook : PySem.W.kitOne K (.ref X_BadText) (.ref X_BadBook) = some false)
    (xt_BadText_NoAmount : PySem.W.kitOne K (.ref X_BadText) (.ref X_NoAmount) = some false)
    (xt_BadText_NoHouse : PySem.W.kitOne K (.ref X_BadText) (.ref X_NoHouse) = some false)
    (xt_BadText_NoIndex : PySem.W.kitOne K (.ref X_BadText) (.ref X_NoIndex) = some false)
    (xt_BadText_BadText : PySem.W.kitOne K (.ref X_BadText) (.ref X_BadText) = some true) :
    ∃ fd : FuncData, (∀ (s : Shared) (u : Value), BindsTo s fd ⟨[u], []⟩ [("_law_script", u)]) ∧ ∀ base : Heap, K.In base → base.Ns mainGlobals mg → (∃ o, base.get? sysModules = some o) → HFn P w K mg base 6 fa fd ["_law_script"] (spLaw K) := by
  have hl := PySem.W.mg_of X N a27
  rw [hfa] at hl
  cases hl
  have XX_BadText : XCls K mg X_SlipError xms xfs "BadText" X_BadText := ⟨PySem.W.mg_of X N xa_BadText, ⟨xga_BadText, xgg_BadText, xe_BadText, xd_BadText, xha_BadText, xhn, xht, xhm_BadText⟩, PySem.W.exm_ref xbE xbD xbT xm_BadText, xv_BadText, by
    intro m hm
    simp only [xms, List.mem_cons, List.not_mem_nil, or_false] at hm
    rcases hm with rfl | rfl | rfl | rfl | rfl
    · exact ⟨X_BadBook, PySem.W.mg_of X N xa_BadBook, xt_BadText_BadBook⟩
    · exact ⟨X_NoAmount, PySem.W.mg_of X N xa_NoAmount, xt_BadText_NoAmount⟩
    · exact ⟨X_NoHouse, PySem.W.mg_of X N xa_NoHouse, xt_BadText_NoHouse⟩
    · exact ⟨X_NoIndex, PySem.W.mg_of X N xa_NoIndex, xt_BadText_NoIndex⟩
    · exact ⟨X_BadText, PySem.W.mg_of X N xa_BadText, xt_BadText_BadText⟩, by
    intro f hf
    simp only [xfs, List.mem_cons, List.not_mem_nil, or_false] at hf
    rcases hf with rfl
    · exact xf_BadText_index⟩
  have G : Gs K mg := { r_BadText := ⟨X_BadText, I_BadText, PySem.W.mg_of X N xa_BadText, ⟨⟨_, _, _, _, _, _, _, _, _, _, _, _, _, _, _, xl_BadText, rfl⟩, xsa_BadText, xga_BadText, xgg_BadText, xf_BadText_index, xi_BadText, xit_BadText, xk_BadText, xe_BadText, xty_BadText, xd_BadText, ⟨_, _, _, _, _, _, _, _, _, _, _, _, _, _, xil_BadText, xic_BadText⟩⟩⟩, x_tab := ⟨X_SlipError, PySem.W.mg_of X N xa_SlipError, by
    intro n hn
    simp only [xcs, List.mem_cons, List.not_mem_nil, or_false] at hn
    rcases hn with rfl
    · exact ⟨X_BadText, XX_BadText⟩⟩, g_ValueError := PySem.W.mg_none_of X N z_ValueError, g_all := PySem.W.mg_none_of X N z_all, g_any := PySem.W.mg_none_of X N z_any, g_bool := PySem.W.mg_none_of X N z_bool, g_enumerate := PySem.W.mg_none_of X N z_enumerate, g_int := PySem.W.mg_none_of X N z_int, g_isinstance := PySem.W.mg_none_of X N z_isinstance, g_len := PySem.W.mg_none_of X N z_len, g_max := PySem.W.mg_none_of X N z_max, g_min := PySem.W.mg_none_of X N z_min, g_range := PySem.W.mg_none_of X N z_range, g_repr := PySem.W.mg_none_of X N z_repr, g_str := PySem.W.mg_none_of X N z_str, g_sum := PySem.W.mg_none_of X N z_sum, g_tuple := PySem.W.mg_none_of X N z_tuple, c_DIGITS := ⟨_, PySem.W.mg_of X N m_DIGITS, r_DIGITS⟩, c_LONGEST := ⟨_, PySem.W.mg_of X N m_LONGEST, r_LONGEST⟩, c_MAX_AMOUNT := ⟨_, PySem.W.mg_of X N m_MAX_AMOUNT, r_MAX_AMOUNT⟩, c_MAX_HOUSES := ⟨_, PySem.W.mg_of X N m_MAX_HOUSES, r_MAX_HOUSES⟩, c_MAX_PURSE := ⟨_, PySem.W.mg_of X N m_MAX_PURSE, r_MAX_PURSE⟩, c_MAX_SLIPS := ⟨_, PySem.W.mg_of X N m_MAX_SLIPS, r_MAX_SLIPS⟩ }
  have F0 := fun_mk (st := s__law_debts) l0 c0 k0
  have b0 := F0.binds (ps := ["_law_book_here"]) fun _ _ _ _ _ _ us hl => match us, hl with | [_], _ => rfl
  have F1 := fun_mk (st := s__law_draw) l1 c1 k1
  have b1 := F1.binds (ps := ["_law_box", "_law_many"]) fun _ _ _ _ _ _ us hl => match us, hl with | [_, _], _ => rfl
  have F2 := fun_mk (st := s__law_number) l2 c2 k2
  have b2 := F2.binds (ps := ["_law_text", "_law_low", "_law_high"]) fun _ _ _ _ _ _ us hl => match us, hl with | [_, _, _], _ => rfl
  have F3 := fun_mk (st := s_debt_of) l3 c3 k3
  have b3 := F3.binds (ps := ["pile"]) fun _ _ _ _ _ _ us hl => match us, hl with | [_], _ => rfl
  have F4 := fun_mk (st := s_is_integer) l4 c4 k4
  have b4 := F4.binds (ps := ["value", "low", "high"]) fun _ _ _ _ _ _ us hl => match us, hl with | [_, _, _], _ => rfl
  have F5 := fun_mk (st := s_number_in) l5 c5 k5
  have b5 := F5.binds (ps := ["word"]) fun _ _ _ _ _ _ us hl => match us, hl with | [_], _ => rfl
  have F6 := fun_mk (st := s_payments_text) l6 c6 k6
  have b6 := F6.binds (ps := ["payments"]) fun _ _ _ _ _ _ us hl => match us, hl with | [_], _ => rfl
  have F7 := fun_mk (st := s_slip_text) l7 c7 k7
  have b7 := F7.binds (ps := ["slip"]) fun _ _ _ _ _ _ us hl => match us, hl with | [_], _ => rfl
  have F8 := fun_mk (st := s_words_of) l8 c8 k8
  have b8 := F8.binds (ps := ["value"]) fun _ _ _ _ _ _ us hl => match us, hl with | [_], _ => rfl
  have F9 := fun_mk (st := s__law_due_payments) l9 c9 k9
  have b9 := F9.binds (ps := ["_law_book_here", "_law_value"]) fun _ _ _ _ _ _ us hl => match us, hl with | [_, _], _ => rfl
  have F10 := fun_mk (st := s__law_house_of) l10 c10 k10
  have b10 := F10.binds (ps := ["_law_text"]) fun _ _ _ _ _ _ us hl => match us, hl with | [_], _ => rfl
  have F11 := fun_mk (st := s__law_one) l11 c11 k11
  have b11 := F11.binds (ps := ["_law_box", "_law_items"]) fun _ _ _ _ _ _ us hl => match us, hl with | [_, _], _ => rfl
  have F12 := fun_mk (st := s_debts) l12 c12 k12
  have b12 := F12.binds (ps := ["book"]) fun _ _ _ _ _ _ us hl => match us, hl with | [_], _ => rfl
  have F13 := fun_mk (st := s_house_text) l13 c13 k13
  have b13 := F13.binds (ps := ["house"]) fun _ _ _ _ _ _ us hl => match us, hl with | [_], _ => rfl
  have F14 := fun_mk (st := s_slip_in) l14 c14 k14
  have b14 := F14.binds (ps := ["word"]) fun _ _ _ _ _ _ us hl => match us, hl with | [_], _ => rfl
  have F15 := fun_mk (st := s__law_changed) l15 c15 k15
  have b15 := F15.binds (ps := ["_law_box", "_law_text"]) fun _ _ _ _ _ _ us hl => match us, hl with | [_, _], _ => rfl
  have F16 := fun_mk (st := s__law_due_book) l16 c16 k16
  have b16 := F16.binds (ps := ["_law_value"]) fun _ _ _ _ _ _ us hl => match us, hl with | [_], _ => rfl
  have F17 := fun_mk (st := s__law_odd) l17 c17 k17
  have b17 := F17.binds (ps := ["_law_box"]) fun _ _ _ _ _ _ us hl => match us, hl with | [_], _ => rfl
  have F18 := fun_mk (st := s__law_payments) l18 c18 k18
  have b18 := F18.binds (ps := ["_law_box", "_law_book_here"]) fun _ _ _ _ _ _ us hl => match us, hl with | [_, _], _ => rfl
  have F19 := fun_mk (st := s__law_pile) l19 c19 k19
  have b19 := F19.binds (ps := ["_law_box", "_law_own", "_law_many", "_law_size", "_law_wide"]) fun _ _ _ _ _ _ us hl => match us, hl with | [_, _, _, _, _], _ => rfl
  have F20 := fun_mk (st := s_book_text) l20 c20 k20
  have b20 := F20.binds (ps := ["book"]) fun _ _ _ _ _ _ us hl => match us, hl with | [_], _ => rfl
  have F21 := fun_mk (st := s_house_in) l21 c21 k21
  have b21 := F21.binds (ps := ["word"]) fun _ _ _ _ _ _ us hl => match us, hl with | [_], _ => rfl
  have F22 := fun_mk (st := s_parse_payments) l22 c22 k22
  have b22 := F22.binds (ps := ["book", "value"]) fun _ _ _ _ _ _ us hl => match us, hl with | [_, _], _ => rfl
  have F23 := fun_mk (st := s__law_book) l23 c23 k23
  have b23 := F23.binds (ps := ["_law_box", "_law_most", "_law_size", "_law_wide"]) fun _ _ _ _ _ _ us hl => match us, hl with | [_, _, _, _], _ => rfl
  have F24 := fun_mk (st := s_parse_book) l24 c24 k24
  have b24 := F24.binds (ps := ["value"]) fun _ _ _ _ _ _ us hl => match us, hl with | [_], _ => rfl
  have F25 := fun_mk (st := s__law_told) l25 c25 k25
  have b25 := F25.binds (ps := ["_law_book_here", "_law_value"]) fun _ _ _ _ _ _ us hl => match us, hl with | [_, _], _ => rfl
  have F26 := fun_mk (st := s__law_opened) l26 c26 k26
  have b26 := F26.binds (ps := ["_law_script"]) fun _ _ _ _ _ _ us hl => match us, hl with | [_], _ => rfl
  have F27 := fun_mk (st := s_law) l27 c27 k27
  have b27 := F27.binds (ps := ["_law_script"]) fun _ _ _ _ _ _ us hl => match us, hl with | [_], _ => rfl
  refine ⟨PySem.W.fnOf "law" "law" (defArgs s_law) (defBody s_law) (defScope s_law) .none kV27 dc27 pm27 an27 cd27 ct27, fun s v => .of_eq rfl, fun base kb nb hsys => ?_⟩
  have C__law_debts : Cal P w K mg base 1 "_law_debts" ["_law_book_here"] sp__law_debts := ⟨_, _, w__law_debts (k := 0) F0 G hsys  len__law_debts law__law_debts, PySem.W.mg_of X N a0, k0, b0⟩
  have C__law_draw : Cal P w K mg base 1 "_law_draw" ["_law_box", "_law_many"] sp__law_draw := ⟨_, _, d_draw F1 (PySem.W.mg_none_of X N z_len), PySem.W.mg_of X N a1, k1, b1⟩
  have C__law_number : Cal P w K mg base 1 "_law_number" ["_law_text", "_law_low", "_law_high"] sp__law_number := ⟨_, _, w__law_number (k := 0) F2 G hsys  len__law_number law__law_number, PySem.W.mg_of X N a2, k2, b2⟩
  have C_debt_of : Cal P w K mg base 1 "debt_of" ["pile"] sp_debt_of := ⟨_, _, w_debt_of (k := 0) F3 G hsys  len_debt_of law_debt_of, PySem.W.mg_of X N a3, k3, b3⟩
  have C_is_integer : Cal P w K mg base 1 "is_integer" ["value", "low", "high"] sp_is_integer := ⟨_, _, w_is_integer (k := 0) F4 G hsys  len_is_integer law_is_integer, PySem.W.mg_of X N a4, k4, b4⟩
  have C_number_in : Cal P w K mg base 1 "number_in" ["word"] sp_number_in := ⟨_, _, w_number_in (k := 0) F5 G hsys  len_number_in law_number_in, PySem.W.mg_of X N a5, k5, b5⟩
  have C_payments_text : Cal P w K mg base 1 "payments_text" ["payments"] sp_payments_text := ⟨_, _, w_payments_text (k := 0) F6 G hsys  len_payments_text law_payments_text, PySem.W.mg_of X N a6, k6, b6⟩
  have C_slip_text : Cal P w K mg base 1 "slip_text" ["slip"] sp_slip_text := ⟨_, _, w_slip_text (k := 0) F7 G hsys  len_slip_text law_slip_text, PySem.W.mg_of X N a7, k7, b7⟩
  have C_words_of : Cal P w K mg base 1 "words_of" ["value"] sp_words_of := ⟨_, _, w_words_of (k := 0) F8 G hsys  len_words_of law_words_of, PySem.W.mg_of X N a8, k8, b8⟩
  have C__law_due_payments : Cal P w K mg base 2 "_law_due_payments" ["_law_book_here", "_law_value"] sp__law_due_payments := ⟨_, _, w__law_due_payments (k := 1) F9 G hsys (C__law_debts.mono (by decide)) (C__law_number.mono (by decide)) len__law_due_payments law__law_due_payments, PySem.W.mg_of X N a9, k9, b9⟩
  have C__law_house_of : Cal P w K mg base 2 "_law_house_of" ["_law_text"] sp__law_house_of := ⟨_, _, w__law_house_of (k := 1) F10 G hsys (C__law_number.mono (by decide)) len__law_house_of law__law_house_of, PySem.W.mg_of X N a10, k10, b10⟩
  have C__law_one : Cal P w K mg base 2 "_law_one" ["_law_box", "_law_items"] sp__law_one := ⟨_, _, w__law_one (k := 1) F11 G hsys (C__law_draw.mono (by decide)) len__law_one law__law_one, PySem.W.mg_of X N a11, k11, b11⟩
  have C_debts : Cal P w K mg base 2 "debts" ["book"] sp_debts := ⟨_, _, w_debts (k := 1) F12 G hsys (C_debt_of.mono (by decide)) len_debts law_debts, PySem.W.mg_of X N a12, k12, b12⟩
  have C_house_text : Cal P w K mg base 2 "house_text" ["house"] sp_house_text := ⟨_, _, w_house_text (k := 1) F13 G hsys (C_slip_text.mono (by decide)) len_house_text law_house_text, PySem.W.mg_of X N a13, k13, b13⟩
  have C_slip_in : Cal P w K mg base 2 "slip_in" ["word"] sp_slip_in := ⟨_, _, w_slip_in (k := 1) F14 G hsys (C_is_integer.mono (by decide)) (C_number_in.mono (by decide)) len_slip_in law_slip_in, PySem.W.mg_of X N a14, k14, b14⟩
  have C__law_changed : Cal P w K mg base 3 "_law_changed" ["_law_box", "_law_text"] sp__law_changed := ⟨_, _, w__law_changed (k := 2) F15 G hsys (C__law_draw.mono (by decide)) (C__law_one.mono (by decide)) len__law_changed law__law_changed, PySem.W.mg_of X N a15, k15, b15⟩
  have C__law_due_book : Cal P w K mg base 3 "_law_due_book" ["_law_value"] sp__law_due_book := ⟨_, _, w__law_due_book (k := 2) F16 G hsys (C__law_house_of.mono (by decide)) len__law_due_book law__law_due_book, PySem.W.mg_of X N a16, k16, b16⟩
  have C__law_odd : Cal P w K mg base 3 "_law_odd" ["_law_box"] sp__law_odd := ⟨_, _, w__law_odd (k := 2) F17 G hsys (C__law_one.mono (by decide)) len__law_odd law__law_odd, PySem.W.mg_of X N a17, k17, b17⟩
  have C__law_payments : Cal P w K mg base 3 "_law_payments" ["_law_box", "_law_book_here"] sp__law_payments := ⟨_, _, w__law_payments (k := 2) F18 G hsys (C__law_draw.mono (by decide)) (C__law_one.mono (by decide)) len__law_payments law__law_payments, PySem.W.mg_of X N a18, k18, b18⟩
  have C__law_pile : Cal P w K mg base 3 "_law_pile" ["_law_box", "_law_own", "_law_many", "_law_size", "_law_wide"] sp__law_pile := ⟨_, _, w__law_pile (k := 2) F19 G hsys (C__law_draw.mono (by decide)) (C__law_one.mono (by decide)) len__law_pile law__law_pile, PySem.W.mg_of X N a19, k19, b19⟩
  have C_book_text : Cal P w K mg base 3 "book_text" ["book"] sp_book_text := ⟨_, _, w_book_text (k := 2) F20 G hsys (C_house_text.mono (by decide)) len_book_text law_book_text, PySem.W.mg_of X N a20, k20, b20⟩
  have C_house_in : Cal P w K mg base 3 "house_in" ["word"] sp_house_in := ⟨_, _, w_house_in (k := 2) F21 G hsys (C_is_integer.mono (by decide)) (C_number_in.mono (by decide)) (C_slip_in.mono (by decide)) len_house_in law_house_in, PySem.W.mg_of X N a21, k21, b21⟩
  have C_parse_payments : Cal P w K mg base 3 "parse_payments" ["book", "value"] sp_parse_payments := ⟨_, _, w_parse_payments (k := 2) F22 G hsys (C_debts.mono (by decide)) (C_is_integer.mono (by decide)) (C_number_in.mono (by decide)) (C_words_of.mono (by decide)) len_parse_payments law_parse_payments, PySem.W.mg_of X N a22, k22, b22⟩
  have C__law_book : Cal P w K mg base 4 "_law_book" ["_law_box", "_law_most", "_law_size", "_law_wide"] sp__law_book := ⟨_, _, w__law_book (k := 3) F23 G hsys (C__law_draw.mono (by decide)) (C__law_one.mono (by decide)) (C__law_pile.mono (by decide)) len__law_book law__law_book, PySem.W.mg_of X N a23, k23, b23⟩
  have C_parse_book : Cal P w K mg base 4 "parse_book" ["value"] sp_parse_book := ⟨_, _, w_parse_book (k := 3) F24 G hsys (C_house_in.mono (by decide)) (C_words_of.mono (by decide)) len_parse_book law_parse_book, PySem.W.mg_of X N a24, k24, b24⟩
  have C__law_told : Cal P w K mg base 5 "_law_told" ["_law_book_here", "_law_value"] sp__law_told := ⟨_, _, w__law_told (k := 4) F25 G hsys (C_parse_book.mono (by decide)) (C_parse_payments.mono (by decide)) len__law_told law__law_told, PySem.W.mg_of X N a25, k25, b25⟩
  have O : HFn P w K mg base 1 f26 _ ["_law_script"] (spOpen K) := g_opened F26 (PySem.W.mg_none_of X N z_abs) (PySem.W.mg_none_of X N z_int)
  exact h_law F27 G hsys O (PySem.W.mg_of X N a26) k26 b26 (C__law_book.mono (by decide)) (C__law_changed.mono (by decide)) (C__law_due_book.mono (by decide)) (C__law_due_payments.mono (by decide)) (C__law_odd.mono (by decide)) (C__law_one.mono (by decide)) (C__law_payments.mono (by decide)) (C__law_told.mono (by decide)) (C_book_text.mono (by decide)) (C_payments_text.mono (by decide))
end Dl
open PySem PySem.W PyProof.Rows in
set_option maxRecDepth 100000 in
set_option maxHeartbeats 0 in
theorem PySem.Challenge.cw_slipturns_k72_other_texts_refused_holds : PySem.Challenge.rw_slipturns_k72_other_texts_refused.Holds := by
  w_on; o_law; k_head; (case hw => w_witness2)
  k_fill
  refine Dl.walkD (l := PySem.Challenge.rw_slipturns_k72_other_texts_refused) (n := 63) (k := 6) (x := "_law_script") (sp := fun w => Dl.spLaw _) rfl (by decide) rfl ⟨rfl, by decide, by decide⟩ (fun w h Y => PySem.W.kIn_of Y) ?Q ?F (fun w H a ns hl hS => ⟨a, ns, rfl, hS, fun _ => rfl⟩)
  case Q => decide +kernel
  case F =>
    intro w mg fa h KX N hmg
    refine' Dl.all_mk KX N hmg ?a0 ?l0 ?c0 ?k0 ?a1 ?l1 ?c1 ?k1 ?a2 ?l2 ?c2 ?k2 ?a3 ?l3 ?c3 ?k3 ?a4 ?l4 ?c4 ?k4 ?a5 ?l5 ?c5 ?k5 ?a6 ?l6 ?c6 ?k6 ?a7 ?l7 ?c7 ?k7 ?a8 ?l8 ?c8 ?k8 ?a9 ?l9 ?c9 ?k9 ?a10 ?l10 ?c10 ?k10 ?a11 ?l11 ?c11 ?k11 ?a12 ?l12 ?c12 ?k12 ?a13 ?l13 ?c13 ?k13 ?a14 ?l14 ?c14 ?k14 ?a15 ?l15 ?c15 ?k15 ?a16 ?l16 ?c16 ?k16 ?a17 ?l17 ?c17 ?k17 ?a18 ?l18 ?c18 ?k18 ?a19 ?l19 ?c19 ?k19 ?a20 ?l20 ?c20 ?k20 ?a21 ?l21 ?c21 ?k21 ?a22 ?l22 ?c22 ?k22 ?a23 ?l23 ?c23 ?k23 ?a24 ?l24 ?c24 ?k24 ?a25 ?l25 ?c25 ?k25 ?a26 ?l26 ?c26 ?k26 ?a27 ?l27 ?c27 ?k27 ?z_ValueError ?z_abs ?z_all ?z_any ?z_bool ?z_enumerate ?z_int ?z_isinstance ?z_len ?z_max ?z_min ?z_range ?z_repr ?z_str ?z_sum ?z_tuple ?m_DIGITS ?r_DIGITS ?m_LONGEST ?r_LONGEST ?m_MAX_AMOUNT ?r_MAX_AMOUNT ?m_MAX_HOUSES ?r_MAX_HOUSES ?m_MAX_PURSE ?r_MAX_PURSE ?m_MAX_SLIPS ?r_MAX_SLIPS ?xa_SlipError ?xa_BadText ?xa_BadBook ?xa_NoAmount ?xa_NoHouse ?xa_NoIndex ?xbE ?xbD ?xbT ?xhn ?xht ?xl_BadText ?xsa_BadText ?xga_BadText ?xgg_BadText ?xha_BadText ?xhm_BadText ?xf_BadText_index ?xi_BadText ?xit_BadText ?xil_BadText ?xic_BadText ?xk_BadText ?xe_BadText ?xty_BadText ?xd_BadText ?xm_BadText ?xv_BadText ?xt_BadText_BadBook ?xt_BadText_NoAmount ?xt_BadText_NoHouse ?xt_BadText_NoIndex ?xt_BadText_BadText
    (case a0 => k_is)
    (case l0 => k_is)
    (case c0 => k_is)
    (case k0 => k_is)
    (case a1 => k_is)
    (case l1 => k_is)
    (case c1 => k_is)
    (case k1 => k_is)
    (case a2 => k_is)
    (case l2 => k_is)
    (case c2 => k_is)
    (case k2 => k_is)
    (case a3 => k_is)
    (case l3 => k_is)
    (case c3 => k_is)
    (case k3 => k_is)
    (case a4 => k_is)
    (case l4 => k_is)
    (case c4 => k_is)
    (case k4 => k_is)
    (case a5 => k_is)
    (case l5 => k_is)
    (case c5 => k_is)
    (case k5 => k_is)
    (case a6 => k_is)
    (case l6 => k_is)
    (case c6 => k_is)
    (case k6 => k_is)
    (case a7 => k_is)
    (case l7 => k_is)
    (case c7 => k_is)
    (case k7 => k_is)
    (case a8 => k_is)
    (case l8 => k_is)
    (case c8 => k_is)
    (case k8 => k_is)
    (case a9 => k_is)
    (case l9 => k_is)
    (case c9 => k_is)
    (case k9 => k_is)
    (case a10 => k_is)
    (case l10 => k_is)
    (case c10 => k_is)
    (case k10 => k_is)
    (case a11 => k_is)
    (case l11 => k_is)
    (case c11 => k_is)
    (case k11 => k_is)
    (case a12 => k_is)
    (case l12 => k_is)
    (case c12 => k_is)
    (case k12 => k_is)
    (case a13 => k_is)
    (case l13 => k_is)
    (case c13 => k_is)
    (case k13 => k_is)
    (case a14 => k_is)
    (case l14 => k_is)
    (case c14 => k_is)
    (case k14 => k_is)
    (case a15 => k_is)
    (case l15 => k_is)
    (case c15 => k_is)
    (case k15 => k_is)
    (case a16 => k_is)
    (case l16 => k_is)
    (case c16 => k_is)
    (case k16 => k_is)
    (case a17 => k_is)
    (case l17 => k_is)
    (case c17 => k_is)
    (case k17 => k_is)
    (case a18 => k_is)
    (case l18 => k_is)
    (case c18 => k_is)
    (case k18 => k_is)
    (case a19 => k_is)
    (case l19 => k_is)
    (case c19 => k_is)
    (case k19 => k_is)
    (case a20 => k_is)
    (case l20 => k_is)
    (case c20 => k_is)
    (case k20 => k_is)
    (case a21 => k_is)
    (case l21 => k_is)
    (case c21 => k_is)
    (case k21 => k_is)
    (case a22 => k_is)
    (case l22 => k_is)
    (case c22 => k_is)
    (case k22 => k_is)
    (case a23 => k_is)
    (case l23 => k_is)
    (case c23 => k_is)
    (case k23 => k_is)
    (case a24 => k_is)
    (case l24 => k_is)
    (case c24 => k_is)
    (case k24 => k_is)
    (case a25 => k_is)
    (case l25 => k_is)
    (case c25 => k_is)
    (case k25 => k_is)
    (case a26 => k_is)
    (case l26 => k_is)
    (case c26 => k_is)
    (case k26 => k_is)
    (case a27 => k_is)
    (case l27 => k_is)
    (case c27 => k_is)
    (case k27 => k_is)
    (case z_ValueError => k_is)
    (case z_abs => k_is)
    (case z_all => k_is)
    (case z_any => k_is)
    (case z_bool => k_is)
    (case z_enumerate => k_is)
    (case z_int => k_is)
    (case z_isinstance => k_is)
    (case z_len => k_is)
    (case z_max => k_is)
    (case z_min => k_is)
    (case z_range => k_is)
    (case z_repr => k_is)
    (case z_str => k_is)
    (case z_sum => k_is)
    (case z_tuple => k_is)
    (case m_DIGITS => k_is)
    (case r_DIGITS => exact ⟨_, rfl⟩)
    (case m_LONGEST => k_is)
    (case r_LONGEST => exact ⟨_, rfl⟩)
    (case m_MAX_AMOUNT => k_is)
    (case r_MAX_AMOUNT => exact ⟨_, rfl⟩)
    (case m_MAX_HOUSES => k_is)
    (case r_MAX_HOUSES => exact ⟨_, rfl⟩)
    (case m_MAX_PURSE => k_is)
    (case r_MAX_PURSE => exact ⟨_, rfl⟩)
    (case m_MAX_SLIPS => k_is)
    (case r_MAX_SLIPS => exact ⟨_, rfl⟩)
    (case xa_SlipError => k_is)
    (case xa_BadText => k_is)
    (case xa_BadBook => k_is)
    (case xa_NoAmount => k_is)
    (case xa_NoHouse => k_is)
    (case xa_NoIndex => k_is)
    (case xbE => k_is)
    (case xbD => k_is)
    (case xbT => k_is)
    (case xhn => k_is)
    (case xht => k_is)
    (case xl_BadText => k_is)
    (case xsa_BadText => k_is)
    (case xga_BadText => k_is)
    (case xgg_BadText => k_is)
    (case xha_BadText => k_is)
    (case xhm_BadText => k_is)
    (case xf_BadText_index => k_is)
    (case xi_BadText => k_is)
    (case xit_BadText => k_is)
    (case xil_BadText => k_is)
    (case xic_BadText => k_is)
    (case xk_BadText => k_is)
    (case xe_BadText => k_is)
    (case xty_BadText => k_is)
    (case xd_BadText => k_is)
    (case xm_BadText => k_is)
    (case xv_BadText => first | k_is | kit_is)
    (case xt_BadText_BadBook => first | k_is | kit_is)
    (case xt_BadText_NoAmount => first | k_is | kit_is)
    (case xt_BadText_NoHouse => first | k_is | kit_is)
    (case xt_BadText_NoIndex => first | k_is | kit_is)
    (case xt_BadText_BadText => first | k_is | kit_is)
