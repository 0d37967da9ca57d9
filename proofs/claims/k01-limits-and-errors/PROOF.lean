import PyProof.Rows.All
import Wide.All
import OpenK.AllK
import Wide.FinOn
import HandS.ForMost
import HandS.Exc
import HandS.TryOnly
import HandS.ExcOwn
import HandS.WordsExc
import HandS.IsInst
import HandS.Wide
import HandS.Star
import HandS.TupAny
import HandS.FStr
import HandS.Zip
import HandS.TupMul
import KE.DataIsa
import KE.DataEq
import KE.GoesNew
import HandS.RaiseMore
import HandS.Style
import HandS.Dict
import HandS.Ends
import HandS.Conv
import HandS.SortInts
import KE.DataMinMax
import HandS.Defaults
import HandS.MakeKwOnly
import HandS.TupSets
import PyProof.EqAt
import PyProof.EqKinds
import PyProof.TupleCall
import Open.SpecLaws
import KE.OsGo
import HandS.ForSpec
import HandS.ExcField
import HandS.ExcIs
import KE.KExcIs
import PyProof.NeKinds
import HandS.Remove
import PyProof.Rows.IntBool
import KE.SortData
import HandS.ExcValue
import HandS.Small
import KE.KIntText
import PyProof.Rows.ReprOcc
import PySem.Challenge.RW_slipturns_k01_limits_and_errors
namespace Dl
open PySem
abbrev xtb : List (Addr × Str) := [(37, "BadBatch"), (56, "BadBook"), (75, "BadPile"), (94, "BadSlip"), (113, "BadText"), (125, "Busy"), (144, "NoAmount"), (156, "NoChoice"), (175, "NoHouse"), (194, "NoIndex"), (213, "NoRing"), (232, "NoSettlement"), (244, "NotBelow"), (256, "NothingToUndo"), (275, "NoVersion"), (287, "OtherBook"), (306, "Overdrawn"), (325, "Rejected"), (344, "TooDeep"), (363, "TooLarge"), (382, "TooMany"), (394, "TooManyEdits"), (413, "TooRich")]
def xnm (C : Addr) : Str := (xtb.lookup C).getD ""
abbrev vcs : List Addr := [37, 56, 75, 94, 113, 125, 144, 156, 175, 194, 213, 232, 244, 256, 275, 287, 306, 325, 344, 363, 382, 394, 413]
end Dl
set_option Elab.async false
set_option linter.all false
set_option maxRecDepth 100000
set_option maxHeartbeats 4000000
namespace Dl
open PySem PySem.Spec PyProof.Rows L2
structure Bx where
  b : Addr
  k : Bool
  own : List Addr
  inv : Hp → Prop
  mem : b ∈ own
  loc : ∀ H H' : Hp, (∀ a ∈ own, H' a = H a) → (∀ a f, H a = some (.ext f) → H' a = some (.ext f)) → inv H → inv H'
  has : ∀ H : Hp, inv H → ∀ a ∈ own, ∃ o, H a = some o
  ty : ∀ H : Hp, inv H → if k = true then ∃ xs, H b = some (.lst xs) else ∃ kvs, H b = some (.dK kvs)
def xO (C : Addr) (d : Option Addr) (a : Addr) : HO := .ext fun h => ∃ (oe : Obj) (vs : Array Value), h.get? a = some oe ∧ Zc (.ref C) d oe ∧ oe.data = .fields vs
theorem xO_ok {P : Program} {w : World} {H : Hp} {h : Heap} {C a : Addr} {d : Option Addr} {oe : Obj} {vs : Array Value} (e : h.get? a = some oe) (z : Zc (.ref C) d oe) (hd : oe.data = .fields vs) : ObjOk P w H h a (xO C d a) :=
  ⟨⟨oe, vs, e, z, hd⟩, ⟨oe, e⟩, fun _ _ ⟨o, v, q, r⟩ k => ⟨o, v, k o q, r⟩⟩
inductive D where
  | non | bl (b : Bool) | it (i : Int) | st (s : Str) | tp (xs : List D) | ls (xs : List D) | dc (kvs : List (Key × D)) | bx (k : Bool) (P : Bx → Prop) | vo (C : Addr) (fs : List (Str × D))
structure Sta where
  bx : Option Bx
  F : Hp
mutual
inductive Rp (t : Option Bx) (F : Hp) : V → D → Prop where
  | non : Rp t F .non .non
  | bl (b : Bool) : Rp t F (.bl b) (.bl b)
  | it (i : Int) : Rp t F (.int i) (.it i)
  | st (s : Str) : Rp t F (.str s) (.st s)
  | tp {a : Addr} {vs : List V} {ds : List D} : F a = some (.tup vs) → RpL t F vs ds → Rp t F (.ref a) (.tp ds)
  | ls {a : Addr} {vs : List V} {ds : List D} : F a = some (.lst vs) → RpL t F vs ds → Rp t F (.ref a) (.ls ds)
  | dc {a : Addr} {vs : List (Key × V)} {ds : List (Key × D)} : F a = some (.dK vs) → RpK t F vs ds → Rp t F (.ref a) (.dc ds)
  | bx {x : Bx} {P : Bx → Prop} : t = some x → P x → Rp t F (.ref x.b) (.bx x.k P)
  | vo {a C : Addr} {dx : Option Addr} {vs : List (Str × V)} {ds : List (Str × D)} : C ∈ vcs → F a = some (xO C dx a) → (dx = none ∧ vs = [] ∨ ∃ d, dx = some d ∧ F d = some (.xd vs)) → RpF t F vs ds → Rp t F (.ref a) (.vo C ds)
inductive RpL (t : Option Bx) (F : Hp) : List V → List D → Prop where
  | nil : RpL t F [] []
  | cons {v : V} {d : D} {vs : List V} {ds : List D} : Rp t F v d → RpL t F vs ds → RpL t F (v :: vs) (d :: ds)
inductive RpK (t : Option Bx) (F : Hp) : List (Key × V) → List (Key × D) → Prop where
  | nil : RpK t F [] []
  | cons {k : Key} {v : V} {d : D} {vs : List (Key × V)} {ds : List (Key × D)} : Rp t F v d → RpK t F vs ds → RpK t F ((k, v) :: vs) ((k, d) :: ds)
inductive RpF (t : Option Bx) (F : Hp) : List (Str × V) → List (Str × D) → Prop where
  | nil : RpF t F [] []
  | cons {k : Str} {v : V} {d : D} {vs : List (Str × V)} {ds : List (Str × D)} : Rp t F v d → RpF t F vs ds → RpF t F ((k, v) :: vs) ((k, d) :: ds)
end
structure Le (t : Option Bx) (F : Hp) (t' : Option Bx) (F' : Hp) : Prop where
  f : ∀ a o, F a = some o → F' a = some o
  t : ∀ x, t = some x → t' = some x
mutual
theorem Rp.le {t t' : Option Bx} {F F' : Hp} (m : Le t F t' F') : ∀ {v : V} {d : D}, Rp t F v d → Rp t' F' v d
  | _, _, .non => .non
  | _, _, .bl b => .bl b
  | _, _, .it i => .it i
  | _, _, .st s => .st s
  | _, _, .tp e r => .tp (m.f _ _ e) (RpL.le m r)
  | _, _, .ls e r => .ls (m.f _ _ e) (RpL.le m r)
  | _, _, .dc e r => .dc (m.f _ _ e) (RpK.le m r)
  | _, _, .bx e p => .bx (m.t _ e) p
  | _, _, .vo c e f r => .vo c (m.f _ _ e) (f.imp id fun ⟨d, h1, h2⟩ => ⟨d, h1, m.f _ _ h2⟩) (RpF.le m r)
theorem RpL.le {t t' : Option Bx} {F F' : Hp} (m : Le t F t' F') : ∀ {vs : List V} {ds : List D}, RpL t F vs ds → RpL t' F' vs ds
  | _, _, .nil => .nil
  | _, _, .cons r s => .cons (Rp.le m r) (RpL.le m s)
theorem RpK.le {t t' : Option Bx} {F F' : Hp} (m : Le t F t' F') : ∀ {vs : List (Key × V)} {ds : List (Key × D)}, RpK t F vs ds → RpK t' F' vs ds
  | _, _, .nil => .nil
  | _, _, .cons r s => .cons (Rp.le m r) (RpK.le m s)
theorem RpF.le {t t' : Option Bx} {F F' : Hp} (m : Le t F t' F') : ∀ {vs : List (Str × V)} {ds : List (Str × D)}, RpF t F vs ds → RpF t' F' vs ds
  | _, _, .nil => .nil
  | _, _, .cons r s => .cons (Rp.le m r) (RpF.le m s)
end
section
variable {t : Option Bx} {F : Hp}
theorem RpL.length : ∀ {vs : List V} {ds : List D}, RpL t F vs ds → vs.length = ds.length
  | _, _, .nil => rfl
  | _, _, .cons _ s => by rw [List.length_cons, List.length_cons, s.length]
theorem RpL.get : ∀ {vs : List V} {ds : List D} {i : Nat} {v : V}, RpL t F vs ds → vs[i]? = some v → ∃ d, ds[i]? = some d ∧ Rp t F v d
  | _, _, _, _, .nil, e => by simp at e
  | _, _, 0, _, .cons r _, e => by simp at e; subst e; exact ⟨_, rfl, r⟩
  | _, _, i + 1, v, .cons _ s, e => by
    obtain ⟨d, h1, h2⟩ := RpL.get (i := i) (v := v) s (by simpa using e)
    exact ⟨d, by simpa using h1, h2⟩
theorem RpL.getD : ∀ {vs : List V} {ds : List D} {i : Nat} {d : D}, RpL t F vs ds → ds[i]? = some d → ∃ v, vs[i]? = some v ∧ Rp t F v d
  | _, _, _, _, .nil, e => by simp at e
  | _, _, 0, _, .cons r _, e => by simp at e; subst e; exact ⟨_, rfl, r⟩
  | _, _, i + 1, v, .cons _ s, e => by
    obtain ⟨d, h1, h2⟩ := RpL.getD (i := i) (d := v) s (by simpa using e)
    exact ⟨d, by simpa using h1, h2⟩
theorem RpL.app : ∀ {vs ws : List V} {ds es : List D}, RpL t F vs ds → RpL t F ws es → RpL t F (vs ++ ws) (ds ++ es)
  | _, _, _, _, .nil, h => h
  | _, _, _, _, .cons r s, h => .cons r (RpL.app s h)
theorem RpL.take : ∀ {vs : List V} {ds : List D} (n : Nat), RpL t F vs ds → RpL t F (vs.take n) (ds.take n)
  | _, _, 0, _ => .nil
  | _, _, _ + 1, .nil => .nil
  | _, _, n + 1, .cons r s => .cons r (RpL.take n s)
theorem RpL.drop : ∀ {vs : List V} {ds : List D} (n : Nat), RpL t F vs ds → RpL t F (vs.drop n) (ds.drop n)
  | _, _, 0, r => r
  | _, _, _ + 1, .nil => .nil
  | _, _, n + 1, .cons _ s => RpL.drop n s
theorem RpL.set {v : V} {d : D} (r : Rp t F v d) : ∀ {vs : List V} {ds : List D} (i : Nat), RpL t F vs ds → RpL t F (vs.set i v) (ds.set i d)
  | _, _, _, .nil => .nil
  | _, _, 0, .cons _ s => .cons r s
  | _, _, i + 1, .cons q s => .cons q (RpL.set r i s)
theorem RpL.one {v : V} {d : D} (r : Rp t F v d) : RpL t F [v] [d] := .cons r .nil
theorem RpL.ints : ∀ (ns : List Int), RpL t F (ns.map V.int) (ns.map D.it)
  | [] => .nil
  | n :: r => .cons (.it n) (RpL.ints r)
end
def InB (t : Option Bx) (a : Addr) : Prop := ∃ x, t = some x ∧ a ∈ x.own
structure Good (S : Sta) (H : Hp) : Prop where
  fz : ∀ a o, S.F a = some o → H a = some o
  bx : ∀ x, S.bx = some x → x.inv H
  nb : ∀ a, InB S.bx a → S.F a = none
theorem Good.box {S : Sta} {H : Hp} (g : Good S H) {a : Addr} (h : InB S.bx a) : ∃ o, H a = some o := by
  obtain ⟨x, e, h⟩ := h
  exact x.has H (g.bx x e) a h
structure Stp (S : Sta) (H : Hp) (S' : Sta) (H' : Hp) : Prop where
  ext : ∀ a o, S.F a = some o → S'.F a = some o
  new : ∀ a o, S'.F a = some o → S.F a = some o ∨ H a = none
  box : S'.bx = S.bx
  keep : ∀ a o, H a = some o → ¬ InB S.bx a → H' a = some o
theorem Stp.refl (S : Sta) (H : Hp) : Stp S H S H := ⟨fun _ _ h => h, fun _ _ h => .inl h, rfl, fun _ _ h _ => h⟩
theorem Stp.le {S S' : Sta} {H H' : Hp} (p : Stp S H S' H') : Le S.bx S.F S'.bx S'.F := ⟨p.ext, fun x e => by rw [p.box]; exact e⟩
theorem none_of_keep {H : Hp} {a : Addr} (h : ∀ o, H a = some o → False) : H a = none := by
  cases e : H a with
  | none => rfl
  | some o => exact (h o e).elim
theorem Stp.free {S S' : Sta} {H H' : Hp} (p : Stp S H S' H') (g : Good S' H') {a : Addr} (h : H' a = none) : H a = none := none_of_keep fun o e => by
  by_cases b : InB S.bx a
  · obtain ⟨x, ex, _⟩ := id b
    have : S'.bx = S.bx := p.box
    obtain ⟨o', e'⟩ := g.box (a := a) (by rw [this]; exact b)
    rw [h] at e'; cases e'
  · rw [p.keep a o e b] at h; cases h
theorem Stp.inB {S S' : Sta} {H H' : Hp} (p : Stp S H S' H') {a : Addr} (h : InB S'.bx a) : InB S.bx a ∨ H a = none := .inl (by rw [p.box] at h; exact h)
theorem Stp.trans {S S1 S2 : Sta} {H H1 H2 : Hp} (p : Stp S H S1 H1) (g : Good S1 H1) (q : Stp S1 H1 S2 H2) : Stp S H S2 H2 where
  ext := fun a o h => q.ext a o (p.ext a o h)
  new := fun a o h => by
    rcases q.new a o h with h | h
    · exact p.new a o h
    · exact .inr (p.free g h)
  box := q.box.trans p.box
  keep := fun a o h b => q.keep a o (p.keep a o h b) fun z => by
    rcases p.inB z with z | z
    · exact b z
    · rw [h] at z; cases z
theorem step_new {S : Sta} {H : Hp} (g : Good S H) {p : Addr} {o : HO} (h : H p = none) :
    Stp S H ⟨S.bx, upd S.F p o⟩ (upd H p o) ∧ Good ⟨S.bx, upd S.F p o⟩ (upd H p o) := by
  have nf : ∀ a o, S.F a = some o → a ≠ p := fun a o e z => by
    have := g.fz a o e
    rw [z, h] at this; cases this
  have nb : ∀ a, InB S.bx a → a ≠ p := fun a e z => by
    obtain ⟨o, q⟩ := g.box e
    rw [z, h] at q; cases q
  refine ⟨⟨fun a u e => (by show upd S.F p o a = some u; rw [upd_ne (nf a u e)]; exact e), fun a u e => ?_, rfl, fun a u e _ => by rw [upd_ne (ne_of_none e h)]; exact e⟩, ⟨fun a u e => ?_, fun x e => ?_, fun a e => ?_⟩⟩
  · by_cases z : a = p
    · rw [z]; exact .inr h
    · have e' : upd S.F p o a = some u := e
      rw [upd_ne z] at e'
      exact .inl e'
  · by_cases z : a = p
    · subst z
      have e' : upd S.F a o a = some u := e
      rw [upd_same] at e' ⊢; exact e'
    · have e' : upd S.F p o a = some u := e
      rw [upd_ne z] at e' ⊢
      exact g.fz a u e'
  · exact x.loc H _ (fun a ha => upd_ne (nb a ⟨x, e, ha⟩)) (fun a f z => by rw [upd_ne (ne_of_none z h)]; exact z) (g.bx x e)
  · show upd S.F p o a = none
    rw [upd_ne (nb a e)]
    exact g.nb a e
theorem step_own {S : Sta} {H : Hp} (g : Good S H) {p : Addr} {o : HO} (h : H p = none) : Stp S H S (upd H p o) ∧ Good S (upd H p o) := by
  have nb : ∀ a, InB S.bx a → a ≠ p := fun a e z => by
    obtain ⟨o, q⟩ := g.box e
    rw [z, h] at q; cases q
  refine ⟨⟨fun a u e => e, fun a u e => .inl e, rfl, fun a u e _ => by rw [upd_ne (ne_of_none e h)]; exact e⟩, ⟨fun a u e => by rw [upd_ne (ne_of_none (g.fz a u e) h)]; exact g.fz a u e, fun x e => ?_, g.nb⟩⟩
  exact x.loc H _ (fun a ha => upd_ne (nb a ⟨x, e, ha⟩)) (fun a f z => by rw [upd_ne (ne_of_none z h)]; exact z) (g.bx x e)
theorem nx_lst {H : Hp} {p : Addr} {xs : List V} (h : H p = some (.lst xs)) : ∀ f, H p ≠ some (.ext f) := fun f z => by rw [h] at z; cases z
theorem nx_dK {H : Hp} {p : Addr} {xs : List (Key × V)} (h : H p = some (.dK xs)) : ∀ f, H p ≠ some (.ext f) := fun f z => by rw [h] at z; cases z
theorem good_mut {S : Sta} {H : Hp} (g : Good S H) {p : Addr} {o : HO} (hx : ∀ f, H p ≠ some (.ext f)) (hf : S.F p = none) (hb : ¬ InB S.bx p) : Good S (upd H p o) := by
  refine ⟨fun a u e => ?_, fun x e => ?_, g.nb⟩
  · have : a ≠ p := fun z => by rw [z, hf] at e; cases e
    rw [upd_ne this]; exact g.fz a u e
  · exact x.loc H _ (fun a ha => upd_ne fun z => hb ⟨x, e, by rw [← z]; exact ha⟩) (fun a f z => by rw [upd_ne (fun y => hx f (by rw [← y]; exact z))]; exact z) (g.bx x e)
theorem good_frz {S : Sta} {H : Hp} (g : Good S H) {p : Addr} {o : HO} (h : H p = some o) (hb : ¬ InB S.bx p) : Good ⟨S.bx, upd S.F p o⟩ H := by
  refine ⟨fun a u e => ?_, g.bx, fun a e => ?_⟩
  · by_cases z : a = p
    · subst z
      have e' : upd S.F a o a = some u := e
      rw [upd_same] at e'; cases e'; exact h
    · have e' : upd S.F p o a = some u := e
      rw [upd_ne z] at e'
      exact g.fz a u e'
  · have : a ≠ p := fun z => hb (by rw [← z]; exact e)
    show upd S.F p o a = none
    rw [upd_ne this]; exact g.nb a e
structure Exn where
  cls : Str
  fs : List (Str × D)
def XD (S : Sta) (H : Hp) (dx : Option Addr) (x : Exn) : Prop :=
  (x.fs = [] ∧ dx = none) ∨ ∃ d fs, dx = some d ∧ H d = some (.xd fs) ∧ ¬ InB S.bx d ∧ Paired (fun (p : Str × V) (q : Str × D) => p.1 = q.1 ∧ Rp S.bx S.F p.2 q.2) fs x.fs
theorem XD.step {S S' : Sta} {H H' : Hp} {dx : Option Addr} {x : Exn} (h : XD S H dx x) (p : Stp S H S' H') : XD S' H' dx x := by
  rcases h with h | ⟨d, fs, h1, h2, h3, h4⟩
  · exact .inl h
  · refine .inr ⟨d, fs, h1, p.keep d _ h2 h3, fun z => ?_, L2.Paired.mapP h4 fun a b k => ⟨k.1, k.2.le p.le⟩⟩
    rcases p.inB z with z | z
    · exact h3 z
    · rw [h2] at z; cases z
theorem XD.more {S S' : Sta} {H H' : Hp} {dx : Option Addr} {x : Exn} (h : XD S H dx x) (hb : S'.bx = S.bx) (le : Le S.bx S.F S'.bx S'.F) (k : ∀ d fs, H d = some (.xd fs) → H' d = some (.xd fs)) : XD S' H' dx x := by
  rcases h with h | ⟨d, fs, h1, h2, h3, h4⟩
  · exact .inl h
  · exact .inr ⟨d, fs, h1, k d fs h2, by rw [hb]; exact h3, L2.Paired.mapP h4 fun a b k => ⟨k.1, k.2.le le⟩⟩
inductive Fd where
  | v (d : D) | dk (p : Addr) (kvs : List (Key × D)) | dt (p : Addr) (kvs : List (List Key × D))
inductive Sl where
  | no | v (d : D) | own (ds : List D) | xn (a : Addr) (dx : Option Addr) (x : Exn) | ob (w : Bool) (a C : Addr) (fs : List (Str × Fd))
def RpA {κ : Type} (t : Option Bx) (F : Hp) (vs : List (κ × V)) (ds : List (κ × D)) : Prop := Paired (fun (p : κ × V) (q : κ × D) => p.1 = q.1 ∧ Rp t F p.2 q.2) vs ds
theorem RpA.le {κ : Type} {t t' : Option Bx} {F F' : Hp} (m : Le t F t' F') {vs : List (κ × V)} {ds : List (κ × D)} (h : RpA t F vs ds) : RpA t' F' vs ds := L2.Paired.mapP h fun _ _ k => ⟨k.1, k.2.le m⟩
def Wr (w : Bool) (Z : Hp) (S : Sta) (p : Addr) : Prop := ¬ InB S.bx p ∧ (w = true → S.F p = none ∧ Z p = none)
def FdOk (w : Bool) (Z : Hp) (S : Sta) (H : Hp) (v : V) : Fd → Prop
  | .v d => Rp S.bx S.F v d
  | .dk p kvs => ∃ ws, v = .ref p ∧ H p = some (.dK ws) ∧ Wr w Z S p ∧ RpA S.bx S.F ws kvs
  | .dt p kvs => ∃ ws, v = .ref p ∧ H p = some (.dT ws) ∧ Wr w Z S p ∧ RpA S.bx S.F ws kvs
def dictF : Str × Fd → Option Addr
  | (_, .v _) => none
  | (_, .dk p _) => some p
  | (_, .dt p _) => some p
def dictA (fs : List (Str × Fd)) : List Addr := fs.filterMap dictF
def ObOk (w : Bool) (Z : Hp) (S : Sta) (H : Hp) (a : Addr) (C : Addr) (fs : List (Str × Fd)) : Prop :=
  ∃ dx vs, H a = some (.ins C dx vs) ∧ H dx = some (.own a) ∧ Wr w Z S a ∧ Wr w Z S dx ∧ Paired (fun (p : Str × V) (q : Str × Fd) => p.1 = q.1 ∧ FdOk w Z S H p.2 q.2) vs fs ∧ (fs.map (·.1)).Nodup ∧ (dictA fs).Nodup
def isObj : HO → Bool
  | .ins _ _ _ => true
  | .own _ => true
  | .dK _ => true
  | .dT _ => true
  | _ => false
theorem Wr.move {w : Bool} {Z : Hp} {S S' : Sta} {H : Hp} {p : Addr} {o : HO} (h : Wr w Z S p) (e : H p = some o) (ho : isObj o = true) (hb : S'.bx = S.bx) (nf : ∀ a o, H a = some o → isObj o = true → S.F a = none → S'.F a = none) : Wr w Z S' p :=
  ⟨by rw [hb]; exact h.1, fun hw => ⟨nf p o e ho (h.2 hw).1, (h.2 hw).2⟩⟩
theorem FdOk.move {w : Bool} {Z : Hp} {S S' : Sta} {H H' : Hp} {v : V} {f : Fd} (h : FdOk w Z S H v f) (hb : S'.bx = S.bx) (le : Le S.bx S.F S'.bx S'.F) (nf : ∀ a o, H a = some o → isObj o = true → S.F a = none → S'.F a = none)
    (k : ∀ a o, H a = some o → isObj o = true → ¬ InB S.bx a → H' a = some o) : FdOk w Z S' H' v f := by
  cases f with
  | v d => exact Rp.le le (show Rp S.bx S.F v d from h)
  | dk p kvs =>
    obtain ⟨ws, e, hp, hw, hr⟩ := h
    exact ⟨ws, e, k p _ hp rfl hw.1, hw.move hp rfl hb nf, hr.le le⟩
  | dt p kvs =>
    obtain ⟨ws, e, hp, hw, hr⟩ := h
    exact ⟨ws, e, k p _ hp rfl hw.1, hw.move hp rfl hb nf, hr.le le⟩
theorem ObOk.move {w : Bool} {Z : Hp} {S S' : Sta} {H H' : Hp} {a C : Addr} {fs : List (Str × Fd)} (h : ObOk w Z S H a C fs) (hb : S'.bx = S.bx) (le : Le S.bx S.F S'.bx S'.F) (nf : ∀ a o, H a = some o → isObj o = true → S.F a = none → S'.F a = none)
    (k : ∀ a o, H a = some o → isObj o = true → ¬ InB S.bx a → H' a = some o) : ObOk w Z S' H' a C fs := by
  obtain ⟨dx, vs, h1, h2, h3, h4, h5, h6⟩ := h
  exact ⟨dx, vs, k a _ h1 rfl h3.1, k dx _ h2 rfl h4.1, h3.move h1 rfl hb nf, h4.move h2 rfl hb nf, L2.Paired.mapP h5 fun _ _ q => ⟨q.1, q.2.move hb le nf k⟩, h6⟩
theorem ObOk.step {w : Bool} {Z : Hp} {S S' : Sta} {H H' : Hp} {a C : Addr} {fs : List (Str × Fd)} (h : ObOk w Z S H a C fs) (p : Stp S H S' H') : ObOk w Z S' H' a C fs :=
  h.move p.box p.le (fun b o e _ hn => none_of_keep fun o' e' => by
    rcases p.new b o' e' with z | z
    · rw [hn] at z; cases z
    · rw [e] at z; cases z) fun b o e _ hb => p.keep b o e hb
theorem ObOk.wrt {w : Bool} {Z : Hp} {S : Sta} {H : Hp} {a C p : Addr} {o : HO} {fs : List (Str × Fd)} (h : ObOk w Z S H a C fs) (hp : ∀ u, H p = some u → isObj u = false) : ObOk w Z S (upd H p o) a C fs :=
  h.move rfl ⟨fun _ _ e => e, fun _ e => e⟩ (fun _ _ _ _ hn => hn) fun b u e hu _ => by
    have : b ≠ p := fun z => by rw [z] at e; rw [hp u e] at hu; cases hu
    rw [upd_ne this]; exact e
theorem ObOk.frz {w : Bool} {Z : Hp} {S : Sta} {H : Hp} {a C p : Addr} {u : HO} {fs : List (Str × Fd)} (h : ObOk w Z S H a C fs) (hp : ∀ u, H p = some u → isObj u = false) (le : Le S.bx S.F S.bx (upd S.F p u)) : ObOk w Z ⟨S.bx, upd S.F p u⟩ H a C fs :=
  h.move rfl le (fun b o e ho hn => by
    have : b ≠ p := fun z => by rw [z] at e; rw [hp o e] at ho; cases ho
    show upd S.F p u b = none
    rw [upd_ne this]; exact hn) fun b o e _ _ => e
def isDict : Fd → Bool
  | .v _ => false
  | _ => true
def SlOk (Z : Hp) (S : Sta) (H : Hp) (s : Option (Option V)) : Sl → Prop
  | .no => True
  | .v d => ∃ x, s = some (some x) ∧ Rp S.bx S.F x d
  | .own ds => ∃ a vs, s = some (some (.ref a)) ∧ H a = some (.lst vs) ∧ S.F a = none ∧ ¬ InB S.bx a ∧ Z a = none ∧ RpL S.bx S.F vs ds
  | .xn a dx x => s = some (some (.ref a)) ∧ XD S H dx x
  | .ob w a C fs => s = some (some (.ref a)) ∧ ObOk w Z S H a C fs
abbrev Env' := List Sl
def SepO (env : Env') : Prop := ∀ (i j : Nat) (w : Bool) (a C : Addr) (fs : List (Str × Fd)) (w' : Bool) (a' C' : Addr) (fs' : List (Str × Fd)), i ≠ j → env[i]? = some (.ob w a C fs) → env[j]? = some (.ob w' a' C' fs') →
  a ≠ a' ∧ ∀ p ∈ dictA fs, p ∉ dictA fs'
theorem SepO.of {env env' : Env'} (h : SepO env) (k : ∀ (i : Nat) w a C fs, env'[i]? = some (.ob w a C fs) → env[i]? = some (.ob w a C fs)) : SepO env' := fun i j w a C fs w' a' C' fs' hij e1 e2 => h i j w a C fs w' a' C' fs' hij (k i w a C fs e1) (k j w' a' C' fs' e2)
def isOb : Sl → Bool
  | .ob _ _ _ _ => true
  | _ => false
theorem ob_set {env : Env'} {i j : Nat} {s : Sl} (hs : isOb s = false) {w : Bool} {a C : Addr} {fs : List (Str × Fd)} (e : (env.set i s)[j]? = some (.ob w a C fs)) : j ≠ i ∧ env[j]? = some (.ob w a C fs) := by
  by_cases hj : j = i
  · subst hj
    by_cases hl : j < env.length
    · rw [List.getElem?_set_self hl] at e; cases e; cases hs
    · rw [List.getElem?_eq_none_iff.mpr (by rw [List.length_set]; omega)] at e; cases e
  · rw [List.getElem?_set_ne (Ne.symm hj)] at e; exact ⟨hj, e⟩
theorem SepO.put {env : Env'} (h : SepO env) {i : Nat} {s : Sl} (hs : isOb s = false) : SepO (env.set i s) := h.of fun j w a C fs e => (ob_set hs e).2
structure Rel (Z : Hp) (S : Sta) (H : Hp) (σ : L2.St) (env : Env') : Prop where
  len : σ.length = env.length
  at_ : ∀ (i : Nat) (s : Sl), env[i]? = some s → SlOk Z S H (σ[i]?) s
  sep : ∀ (i j : Nat) (xs ys : List D) (a : Addr), i ≠ j → env[i]? = some (.own xs) → env[j]? = some (.own ys) → σ[i]? = some (some (.ref a)) → σ[j]? ≠ some (some (.ref a))
  sepO : SepO env
theorem Rel.step {Z : Hp} {S S' : Sta} {H H' : Hp} {σ : L2.St} {env : Env'} (r : Rel Z S H σ env) (p : Stp S H S' H') : Rel Z S' H' σ env where
  len := r.len
  at_ := fun i s e => by
    have q := r.at_ i s e
    cases s with
    | no => trivial
    | v d => obtain ⟨x, h1, h2⟩ := q; exact ⟨x, h1, h2.le p.le⟩
    | xn a dx x => exact ⟨q.1, q.2.step p⟩
    | ob w a C fs => exact ⟨q.1, q.2.step p⟩
    | own ds =>
      obtain ⟨a, vs, h1, h2, h3, h4, h5, h6⟩ := q
      refine ⟨a, vs, h1, p.keep a _ h2 h4, ?_, ?_, h5, h6.le p.le⟩
      · exact none_of_keep fun o e => by
          rcases p.new a o e with z | z
          · rw [h3] at z; cases z
          · rw [h2] at z; cases z
      · intro z
        rcases p.inB z with z | z
        · exact h4 z
        · rw [h2] at z; cases z
  sep := r.sep
  sepO := r.sepO
theorem Rel.put {Z : Hp} {S : Sta} {H : Hp} {σ : L2.St} {env : Env'} (r : Rel Z S H σ env) {i : Nat} {x : V} {d : D} (h : Rp S.bx S.F x d) : Rel Z S H (σ.set i (some x)) (env.set i (.v d)) where
  len := by rw [List.length_set, List.length_set]; exact r.len
  at_ := fun j s e => by
    by_cases hj : j = i
    · subst hj
      have hl : j < env.length := by
        have := (List.getElem?_eq_some_iff.mp e).1
        rwa [List.length_set] at this
      rw [List.getElem?_set_self hl] at e
      cases e
      exact ⟨x, by rw [List.getElem?_set_self (by rw [r.len]; exact hl)], h⟩
    · rw [List.getElem?_set_ne (Ne.symm hj)] at e ⊢
      exact r.at_ j s e
  sep := fun j k xs ys a hjk e1 e2 h1 => by
    have n1 : j ≠ i := fun z => by
      subst z
      by_cases hl : j < env.length
      · rw [List.getElem?_set_self hl] at e1; cases e1
      · rw [List.getElem?_eq_none_iff.mpr (by rw [List.length_set]; omega)] at e1; cases e1
    have n2 : k ≠ i := fun z => by
      subst z
      by_cases hl : k < env.length
      · rw [List.getElem?_set_self hl] at e2; cases e2
      · rw [List.getElem?_eq_none_iff.mpr (by rw [List.length_set]; omega)] at e2; cases e2
    rw [List.getElem?_set_ne (Ne.symm n1)] at e1 h1
    rw [List.getElem?_set_ne (Ne.symm n2)] at e2 ⊢
    exact r.sep j k xs ys a hjk e1 e2 h1
  sepO := r.sepO.put rfl
theorem Rel.drop_ {Z : Hp} {S : Sta} {H : Hp} {σ : L2.St} {env : Env'} (r : Rel Z S H σ env) (i : Nat) (z : Option V) : Rel Z S H (σ.set i z) (env.set i .no) where
  len := by rw [List.length_set, List.length_set]; exact r.len
  at_ := fun j s e => by
    by_cases hj : j = i
    · subst hj
      have hl : j < env.length := by
        have := (List.getElem?_eq_some_iff.mp e).1
        rwa [List.length_set] at this
      rw [List.getElem?_set_self hl] at e
      cases e
      trivial
    · rw [List.getElem?_set_ne (Ne.symm hj)] at e ⊢
      exact r.at_ j s e
  sep := fun j k xs ys a hjk e1 e2 h1 => by
    have n1 : j ≠ i := fun z => by
      subst z
      by_cases hl : j < env.length
      · rw [List.getElem?_set_self hl] at e1; cases e1
      · rw [List.getElem?_eq_none_iff.mpr (by rw [List.length_set]; omega)] at e1; cases e1
    have n2 : k ≠ i := fun z => by
      subst z
      by_cases hl : k < env.length
      · rw [List.getElem?_set_self hl] at e2; cases e2
      · rw [List.getElem?_eq_none_iff.mpr (by rw [List.length_set]; omega)] at e2; cases e2
    rw [List.getElem?_set_ne (Ne.symm n1)] at e1 h1
    rw [List.getElem?_set_ne (Ne.symm n2)] at e2 ⊢
    exact r.sep j k xs ys a hjk e1 e2 h1
  sepO := r.sepO.put rfl
theorem Rel.putOwn {Z : Hp} {S : Sta} {H : Hp} {σ : L2.St} {env : Env'} (r : Rel Z S H σ env) {i : Nat} {p : Addr} {vs : List V} {ds : List D} (h0 : Z p = none) (h1 : H p = some (.lst vs)) (h2 : S.F p = none) (h3 : ¬ InB S.bx p)
    (hn : ∀ (j : Nat) (ys : List D), env[j]? = some (Sl.own ys) → σ[j]? ≠ some (some (V.ref p))) (h : RpL S.bx S.F vs ds) : Rel Z S H (σ.set i (some (.ref p))) (env.set i (.own ds)) where
  len := by rw [List.length_set, List.length_set]; exact r.len
  at_ := fun j s e => by
    by_cases hj : j = i
    · subst hj
      have hl : j < env.length := by
        have := (List.getElem?_eq_some_iff.mp e).1
        rwa [List.length_set] at this
      rw [List.getElem?_set_self hl] at e
      cases e
      exact ⟨p, vs, by rw [List.getElem?_set_self (by rw [r.len]; exact hl)], h1, h2, h3, h0, h⟩
    · rw [List.getElem?_set_ne (Ne.symm hj)] at e ⊢
      exact r.at_ j s e
  sep := fun j k xs ys a hjk e1 e2 q => by
    by_cases hj : j = i
    · subst hj
      have hk : k ≠ j := Ne.symm hjk
      rw [List.getElem?_set_ne (Ne.symm hk)] at e2 ⊢
      have hl : j < σ.length := by
        have := (List.getElem?_eq_some_iff.mp q).1
        rwa [List.length_set] at this
      rw [List.getElem?_set_self hl] at q
      cases q
      exact hn k ys e2
    · rw [List.getElem?_set_ne (Ne.symm hj)] at e1 q
      by_cases hk : k = i
      · subst hk
        intro z
        have hl : k < σ.length := by
          have := (List.getElem?_eq_some_iff.mp z).1
          rwa [List.length_set] at this
        rw [List.getElem?_set_self hl] at z
        cases z
        exact hn j xs e1 q
      · rw [List.getElem?_set_ne (Ne.symm hk)] at e2 ⊢
        exact r.sep j k xs ys a hjk e1 e2 q
  sepO := r.sepO.put rfl
theorem Rel.mut {Z : Hp} {S : Sta} {H : Hp} {σ : L2.St} {env : Env'} (r : Rel Z S H σ env) {i : Nat} {a : Addr} {vs : List V} {ds es : List D} (he : env[i]? = some (.own es)) (hs : σ[i]? = some (some (.ref a))) (h : RpL S.bx S.F vs ds) :
    Rel Z S (upd H a (.lst vs)) σ (env.set i (.own ds)) where
  len := by rw [List.length_set]; exact r.len
  at_ := fun j s e => by
    by_cases hj : j = i
    · subst hj
      have hl := (List.getElem?_eq_some_iff.mp he).1
      rw [List.getElem?_set_self hl] at e
      cases e
      obtain ⟨a', ws, q1, q2, q3, q4, q5, q6⟩ := r.at_ j _ he
      rw [hs] at q1; cases q1
      exact ⟨a, vs, hs, upd_same, q3, q4, q5, h⟩
    · rw [List.getElem?_set_ne (Ne.symm hj)] at e
      have q := r.at_ j s e
      cases s with
      | no => trivial
      | v d => exact q
      | xn a' dx x =>
        obtain ⟨a2, ws, q1, q2, q3, q4, q5, q6⟩ := r.at_ i _ he
        rw [hs] at q1; cases q1
        exact ⟨q.1, q.2.more rfl ⟨fun _ _ e => e, fun _ e => e⟩ fun d fs e => by
          have : d ≠ a := fun z => by rw [z, q2] at e; cases e
          rw [upd_ne this]; exact e⟩
      | ob w b C fs =>
        obtain ⟨a2, ws, q1, q2, q3, q4, q5, q6⟩ := r.at_ i _ he
        rw [hs] at q1; cases q1
        exact ⟨q.1, q.2.wrt fun u e => by rw [q2] at e; cases e; rfl⟩
      | own us =>
        obtain ⟨b, ws, q1, q2, q3, q4, q5, q6⟩ := q
        have : b ≠ a := fun z => r.sep j i _ _ b hj e he q1 (by rw [z]; exact hs)
        exact ⟨b, ws, q1, by rw [upd_ne this]; exact q2, q3, q4, q5, q6⟩
  sep := fun j k xs ys b hjk e1 e2 q => by
    have own_of : ∀ (m : Nat) (zs : List D), (env.set i (Sl.own ds))[m]? = some (Sl.own zs) → ∃ us, env[m]? = some (Sl.own us) := fun m zs e => by
      by_cases hm : m = i
      · subst hm; exact ⟨_, he⟩
      · rw [List.getElem?_set_ne (Ne.symm hm)] at e; exact ⟨_, e⟩
    obtain ⟨us, e1⟩ := own_of j xs e1
    obtain ⟨ws, e2⟩ := own_of k ys e2
    exact r.sep j k us ws b hjk e1 e2 q
  sepO := r.sepO.put rfl
theorem Rel.frz {Z : Hp} {S : Sta} {H : Hp} {σ : L2.St} {env : Env'} (r : Rel Z S H σ env) (g : Good S H) {i : Nat} {es : List D} (he : env[i]? = some (.own es)) :
    ∃ a vs, σ[i]? = some (some (.ref a)) ∧ H a = some (.lst vs) ∧ Z a = none ∧ Good ⟨S.bx, upd S.F a (.lst vs)⟩ H ∧ Le S.bx S.F S.bx (upd S.F a (.lst vs)) ∧ S.F a = none ∧
      Rel Z ⟨S.bx, upd S.F a (.lst vs)⟩ H σ (env.set i (.v (.ls es))) := by
  obtain ⟨a, vs, q1, q2, q3, q4, q5, q6⟩ := r.at_ i _ he
  have le : Le S.bx S.F S.bx (upd S.F a (.lst vs)) := ⟨fun b o e => by
    have : b ≠ a := fun z => by rw [z, q3] at e; cases e
    rw [upd_ne this]; exact e, fun x e => e⟩
  refine ⟨a, vs, q1, q2, q5, good_frz g q2 q4, le, q3, ?_⟩
  refine ⟨by rw [List.length_set]; exact r.len, fun j s e => ?_, fun j k xs ys b hjk e1 e2 q => ?_, r.sepO.put rfl⟩
  · by_cases hj : j = i
    · subst hj
      rw [List.getElem?_set_self (List.getElem?_eq_some_iff.mp he).1] at e
      cases e
      exact ⟨_, q1, .ls (by show upd S.F a (.lst vs) a = _; exact upd_same) (q6.le le)⟩
    · rw [List.getElem?_set_ne (Ne.symm hj)] at e
      have q := r.at_ j s e
      cases s with
      | no => trivial
      | v d => obtain ⟨x, h1, h2⟩ := q; exact ⟨x, h1, h2.le le⟩
      | xn a' dx x => exact ⟨q.1, q.2.more rfl le fun _ _ e => e⟩
      | ob w b C fs => exact ⟨q.1, q.2.frz (fun u e => by rw [q2] at e; cases e; rfl) le⟩
      | own us =>
        obtain ⟨b, ws, p1, p2, p3, p4, p5, p6⟩ := q
        have : b ≠ a := fun z => r.sep j i _ _ b hj e he p1 (by rw [z]; exact q1)
        exact ⟨b, ws, p1, p2, by show upd S.F a (.lst vs) b = none; rw [upd_ne this]; exact p3, p4, p5, p6.le le⟩
  · have n1 : j ≠ i := fun z => by
      subst z
      rw [List.getElem?_set_self (List.getElem?_eq_some_iff.mp he).1] at e1; cases e1
    have n2 : k ≠ i := fun z => by
      subst z
      rw [List.getElem?_set_self (List.getElem?_eq_some_iff.mp he).1] at e2; cases e2
    rw [List.getElem?_set_ne (Ne.symm n1)] at e1
    rw [List.getElem?_set_ne (Ne.symm n2)] at e2
    exact r.sep j k xs ys b hjk e1 e2 q
abbrev DK := D → Prop
abbrev EK := Exn → Prop
def XRep (mg : Str → Option Value) (S : Sta) (H : Hp) (C : Value) (dx : Option Addr) (x : Exn) : Prop :=
  mg x.cls = some C ∧ XD S H dx x
def XLink (mg : Str → Option Value) (S : Sta) (H : Hp) (Ed : EK) (E : XK) : Prop :=
  ∀ C dx H' S' x, Stp S H S' H' → Good S' H' → XRep mg S' H' C dx x → Ed x → E C dx H'
theorem XLink.step {mg : Str → Option Value} {S S' : Sta} {H H' : Hp} {Ed : EK} {E : XK} (l : XLink mg S H Ed E) (p : Stp S H S' H') (g : Good S' H') : XLink mg S' H' Ed E :=
  fun C dx H2 S2 x q g2 r h => l C dx H2 S2 x (p.trans g q) g2 r h
def Cont (S : Sta) (H : Hp) (Qd : DK) (Q : VK) : Prop := ∀ v H' S' x, Stp S H S' H' → Good S' H' → Rp S'.bx S'.F v x → Qd x → Q v H'
theorem Cont.step {S S' : Sta} {H H' : Hp} {Qd : DK} {Q : VK} (c : Cont S H Qd Q) (p : Stp S H S' H') (g : Good S' H') : Cont S' H' Qd Q :=
  fun v H2 S2 x q g2 r h => c v H2 S2 x (p.trans g q) g2 r h
theorem Cont.now {S : Sta} {H : Hp} {Qd : DK} {Q : VK} (c : Cont S H Qd Q) (g : Good S H) {v : V} {x : D} (r : Rp S.bx S.F v x) (h : Qd x) : Q v H := c v H S x (.refl S H) g r h
theorem Cont.tup {S : Sta} {H : Hp} {Qd : DK} {Q : VK} (c : Cont S H Qd Q) (g : Good S H) {vs : List V} {ds : List D} (r : RpL S.bx S.F vs ds) (h : Qd (.tp ds)) : ∀ p, H p = none → Q (.ref p) (upd H p (.tup vs)) := fun p hp => by
  obtain ⟨s, g'⟩ := step_new g (o := .tup vs) hp
  exact c _ _ _ _ s g' (.tp (by show upd S.F p (.tup vs) p = _; exact upd_same) (r.le s.le)) h
theorem Cont.lst {S : Sta} {H : Hp} {Qd : DK} {Q : VK} (c : Cont S H Qd Q) (g : Good S H) {vs : List V} {ds : List D} (r : RpL S.bx S.F vs ds) (h : Qd (.ls ds)) : ∀ p, H p = none → Q (.ref p) (upd H p (.lst vs)) := fun p hp => by
  obtain ⟨s, g'⟩ := step_new g (o := .lst vs) hp
  exact c _ _ _ _ s g' (.ls (by show upd S.F p (.lst vs) p = _; exact upd_same) (r.le s.le)) h
abbrev DT_ := Env' → DK → EK → Prop
abbrev DB_ := Env' → (Bool → Prop) → EK → Prop
abbrev DA_ := Env' → (List D → Prop) → EK → Prop
structure DE (X : Cx) (E : XK) (e : Expr) (d : DT_) : Prop where
  run : ∃ t, PE X e t ∧ ∀ Z S H σ env Q Qd Ed, Good S H → Rel Z S H σ env → XLink X.mg S H Ed E → d env Qd Ed → Cont S H Qd Q → t σ H Q
def ContB (S : Sta) (H : Hp) (Qd : Bool → Prop) (Q : Bool → Hp → Prop) : Prop := ∀ b H' S', Stp S H S' H' → Good S' H' → Qd b → Q b H'
structure DB (X : Cx) (E : XK) (e : Expr) (d : DB_) : Prop where
  run : ∃ t, PT X e t ∧ ∀ Z S H σ env Q Qd Ed, Good S H → Rel Z S H σ env → XLink X.mg S H Ed E → d env Qd Ed → ContB S H Qd Q → t σ H Q
structure DW (X : Cx) (E : XK) (e : Expr) (d : DB_) : Prop where
  run : ∃ t, PW X e t ∧ ∀ Z S H σ env Q Qd Ed, Good S H → Rel Z S H σ env → XLink X.mg S H Ed E → d env Qd Ed → ContB S H Qd Q → t σ H Q
def ContL (S : Sta) (H : Hp) (Qd : List D → Prop) (Q : List V → Hp → Prop) : Prop := ∀ vs H' S' xs, Stp S H S' H' → Good S' H' → RpL S'.bx S'.F vs xs → Qd xs → Q vs H'
structure DA (X : Cx) (E : XK) (es : List Expr) (d : DA_) : Prop where
  run : ∃ t, PA X es t ∧ ∀ Z S H σ env Q Qd Ed, Good S H → Rel Z S H σ env → XLink X.mg S H Ed E → d env Qd Ed → ContL S H Qd Q → t σ H Q
section
variable {X : Cx} {E : XK} {pos : Pos} {a b c : Expr} {da db dc : DT_}
def dVar (i : Nat) : DT_ := fun env Q _ => match env[i]? with | some (.v d) => Q d | _ => False
theorem de_var (i : Nat) {x : Str} (hN : X.N[i]? = some x := by rfl) (hv : Vis X.env.scope x := by first | exact Or.inl rfl | exact Or.inr (Or.inl rfl) | exact Or.inr (Or.inr rfl)) (hd : (x == ("__debug__" : Str)) = false := by decide)
    (hcd : (x == ("__classdict__" : Str)) = false := by decide) : DE X E (.Name x pos) (dVar i) := by
  refine ⟨_, pe_var hN hv hd hcd, fun Z S H σ env Q Qd Ed g r _ h k => ?_⟩
  unfold dVar at h
  split at h
  · next d e =>
    obtain ⟨x, h1, h2⟩ := r.at_ i _ e
    exact ⟨x, h1, k.now g h2 h⟩
  · exact h.elim
def dC (d : D) : DT_ := fun _ Q _ => Q d
theorem de_int {i j} : DE X E (.Constant (.int i) j pos) (dC (.it i)) := ⟨_, pe_int, fun _ _ _ _ _ _ _ _ g _ _ h k => k.now g (.it i) h⟩
theorem de_bl {i j} : DE X E (.Constant (.bool i) j pos) (dC (.bl i)) := ⟨_, pe_bl, fun _ _ _ _ _ _ _ _ g _ _ h k => k.now g (.bl i) h⟩
theorem de_non {j} : DE X E (.Constant .none j pos) (dC .non) := ⟨_, pe_non, fun _ _ _ _ _ _ _ _ g _ _ h k => k.now g .non h⟩
theorem de_str {s j} : DE X E (.Constant (.str s) j pos) (dC (.st s)) := ⟨_, pe_str, fun _ _ _ _ _ _ _ _ g _ _ h k => k.now g (.st s) h⟩
theorem de_globI {x : Str} {i : Int} {u : Value} (hg : Gl X x) (hm : X.mg x = some u) (r : RelV (.int i) u) (hd : (x == ("__debug__" : Str)) = false := by decide) : DE X E (.Name x pos) (dC (.it i)) :=
  ⟨_, pe_glob hg hm r hd, fun _ _ _ _ _ _ _ _ g _ _ h k => k.now g (.it i) h⟩
def OpD (S : Sta) (r : R2) (o : D → D → DK → Prop) : Prop := ∀ H x y dx dy Q Qd, Good S H → Rp S.bx S.F x dx → Rp S.bx S.F y dy → o dx dy Qd → Cont S H Qd Q → r x y H Q
def dOp (o : D → D → DK → Prop) (da db : DT_) : DT_ := fun env Q E => da env (fun x => db env (fun y => o x y Q) E) E
theorem de_bin {op : Operator} {r : R2} {o : D → D → DK → Prop} (ho : OpR X (binaryOp op) r) (od : ∀ S, OpD S r o) (ha : DE X E a da) (hb : DE X E b db) : DE X E (.BinOp a op b pos) (dOp o da db) := by
  obtain ⟨ta, pa, ra⟩ := ha.run
  obtain ⟨tb, pb, rb⟩ := hb.run
  refine ⟨_, pe_op ho pa pb, fun Z S H σ env Q Qd Ed g r l h k => ?_⟩
  refine ra Z S H σ env _ _ Ed g r l h fun x H1 S1 dx s1 g1 r1 h1 => ?_
  refine rb Z S1 H1 σ env _ _ Ed g1 (r.step s1) (l.step s1 g1) h1 fun y H2 S2 dy s2 g2 r2 h2 => ?_
  exact od S2 H2 x y dx dy Q Qd g2 (r1.le s2.le) r2 h2 ((k.step s1 g1).step s2 g2)
theorem de_cmp {op : CmpOp} {r : R2} {o : D → D → DK → Prop} (ho : OpR X (compareOp op) r) (od : ∀ S, OpD S r o) (ha : DE X E a da) (hb : DE X E b db) (hm : behindInMarks op b = false := by first | exact nobehind _ (by decide) (by decide) | rfl) :
    DE X E (.Compare a [op] [b] pos) (dOp o da db) := by
  obtain ⟨ta, pa, ra⟩ := ha.run
  obtain ⟨tb, pb, rb⟩ := hb.run
  refine ⟨_, pe_cmpR ho pa pb hm, fun Z S H σ env Q Qd Ed g r l h k => ?_⟩
  refine ra Z S H σ env _ _ Ed g r l h fun x H1 S1 dx s1 g1 r1 h1 => ?_
  refine rb Z S1 H1 σ env _ _ Ed g1 (r.step s1) (l.step s1 g1) h1 fun y H2 S2 dy s2 g2 r2 h2 => ?_
  exact od S2 H2 x y dx dy Q Qd g2 (r1.le s2.le) r2 h2 ((k.step s1 g1).step s2 g2)
def dTst (d : DT_) : DB_ := fun env Q E => d env (fun x => match x with | .bl b => Q b | _ => False) E
theorem db_cmp {op : CmpOp} {r : R2} {o : D → D → DK → Prop} (ho : OpR X (compareOp op) r) (od : ∀ S, OpD S r o) (ha : DE X E a da) (hb : DE X E b db) (hm : behindInMarks op b = false := by first | exact nobehind _ (by decide) (by decide) | rfl) :
    DB X E (.Compare a [op] [b] pos) (dTst (dOp o da db)) := by
  obtain ⟨ta, pa, ra⟩ := ha.run
  obtain ⟨tb, pb, rb⟩ := hb.run
  refine ⟨_, pt_cmpR ho pa pb hm, fun Z S H σ env Q Qd Ed g r l h k => ?_⟩
  refine ra Z S H σ env _ _ Ed g r l h fun x H1 S1 dx s1 g1 r1 h1 => ?_
  refine rb Z S1 H1 σ env _ _ Ed g1 (r.step s1) (l.step s1 g1) h1 fun y H2 S2 dy s2 g2 r2 h2 => ?_
  refine od S2 H2 x y dx dy _ _ g2 (r1.le s2.le) r2 h2 fun v H3 S3 z s3 g3 r3 h3 => ?_
  split at h3
  · cases r3
    exact ⟨_, rfl, k _ _ _ ((s1.trans g1 s2).trans g2 s3) g3 h3⟩
  · exact h3.elim
theorem db_val {e : Expr} {d : DT_} (he : DE X E e d) (hs : ∀ whole, isTrue e X.env whole = (do let v ← whole; standAt e.pos; holding [v] (truthy v)) := by intro _; rfl) : DB X E e (dTst d) := by
  obtain ⟨t, p, q⟩ := he.run
  refine ⟨_, pt_val p hs, fun Z S H σ env Q Qd Ed g r l h k => ?_⟩
  refine q Z S H σ env _ _ Ed g r l h fun v H3 S3 z s3 g3 r3 h3 => ?_
  split at h3
  · cases r3
    exact ⟨_, rfl, k _ _ _ s3 g3 h3⟩
  · exact h3.elim
variable {ta tb : DB_} {rest : List Expr}
def dAnd (t u : DB_) : DB_ := fun env Q E => t env (fun c => match c with | true => u env Q E | false => Q false) E
def dOr (t u : DB_) : DB_ := fun env Q E => t env (fun c => match c with | true => Q true | false => u env Q E) E
def dNot (t : DB_) : DB_ := fun env Q E => t env (fun c => Q (!c)) E
theorem dw_or1 (ha : DB X E a ta) : DW X E (.BoolOp .Or [a] pos) ta := let ⟨t, p, q⟩ := ha.run; ⟨t, pw_or1 p, q⟩
theorem dw_or (ha : DB X E a ta) (hb : DW X E (.BoolOp .Or (b :: rest) pos) tb) : DW X E (.BoolOp .Or (a :: b :: rest) pos) (dOr ta tb) := by
  obtain ⟨t, p, q⟩ := ha.run
  obtain ⟨t', p', q'⟩ := hb.run
  refine ⟨_, pw_or p p', fun Z S H σ env Q Qd Ed g r l h k => ?_⟩
  refine q Z S H σ env _ _ Ed g r l h fun c H1 S1 s1 g1 h1 => ?_
  cases c with
  | false => exact q' Z S1 H1 σ env _ _ Ed g1 (r.step s1) (l.step s1 g1) h1 fun d H2 S2 s2 g2 h2 => k d H2 S2 (s1.trans g1 s2) g2 h2
  | true => exact k true H1 S1 s1 g1 h1
theorem DW.toDB {e : Expr} (h : DW X E e ta) : DB X E e ta := let ⟨t, p, q⟩ := h.run; ⟨t, p.pt, q⟩
theorem db_not (ha : DB X E a ta) : DB X E (.UnaryOp .Not a pos) (dNot ta) := by
  obtain ⟨t, p, q⟩ := ha.run
  exact ⟨_, pt_not p, fun Z S H σ env Q Qd Ed g r l h k => q Z S H σ env _ _ Ed g r l h fun c H1 S1 s1 g1 h1 => k _ H1 S1 s1 g1 h1⟩
def dAndV (da db : DT_) : DT_ := fun env Q E => da env (fun x => match x with | .bl true => db env Q E | .bl false => Q (.bl false) | _ => False) E
def dOrV (da db : DT_) : DT_ := fun env Q E => da env (fun x => match x with | .bl false => db env Q E | .bl true => Q (.bl true) | _ => False) E
def dNotV (da : DT_) : DT_ := fun env Q E => da env (fun x => match x with | .bl b => Q (.bl (!b)) | _ => False) E
theorem de_one {op} {d : DT_} (h : DE X E a d) : DE X E (.BoolOp op [a] pos) d := let ⟨t, p, q⟩ := h.run; ⟨t, pe_one p, q⟩
theorem de_and (ha : DE X E a da) (hb : DE X E (.BoolOp .And (b :: rest) pos) db) : DE X E (.BoolOp .And (a :: b :: rest) pos) (dAndV da db) := by
  obtain ⟨t, p, q⟩ := ha.run
  obtain ⟨t', p', q'⟩ := hb.run
  refine ⟨_, pe_and p p', fun Z S H σ env Q Qd Ed g r l h k => ?_⟩
  refine q Z S H σ env _ _ Ed g r l h fun v H1 S1 x s1 g1 r1 h1 => ?_
  split at h1
  · cases r1
    refine ⟨true, rfl, ?_⟩
    rw [if_pos rfl]
    exact q' Z S1 H1 σ env _ _ Ed g1 (r.step s1) (l.step s1 g1) h1 (k.step s1 g1)
  · cases r1
    refine ⟨false, rfl, ?_⟩
    rw [if_neg Bool.false_ne_true]
    exact k _ H1 S1 _ s1 g1 (.bl false) h1
  · exact h1.elim
def dIf (t : DB_) (da db : DT_) : DT_ := fun env Q E => t env (fun c => match c with | true => da env Q E | false => db env Q E) E
def dNil : DA_ := fun _ Q _ => Q []
def dCons (d : DT_) (u : DA_) : DA_ := fun env Q E => d env (fun x => u env (fun xs => Q (x :: xs)) E) E
theorem da_nil : DA X E [] dNil := ⟨_, pa_nil, fun _ S H _ _ _ _ _ g _ _ h k => k [] H S [] (.refl S H) g .nil h⟩
theorem da_cons {es : List Expr} {u : DA_} (ha : DE X E a da) (hr : DA X E es u) (hs : starEach (a :: es) X.env = (false, eval a X.env) :: starEach es X.env := by rfl) : DA X E (a :: es) (dCons da u) := by
  obtain ⟨t, p, q⟩ := ha.run
  obtain ⟨t', p', q'⟩ := hr.run
  refine ⟨_, pa_cons p p' hs, fun Z S H σ env Q Qd Ed g r l h k => ?_⟩
  refine q Z S H σ env _ _ Ed g r l h fun v H1 S1 x s1 g1 r1 h1 => ?_
  refine q' Z S1 H1 σ env _ _ Ed g1 (r.step s1) (l.step s1 g1) h1 fun vs H2 S2 xs s2 g2 r2 h2 => ?_
  exact k _ H2 S2 _ (s1.trans g1 s2) g2 (.cons (r1.le s2.le) r2) h2
def dStar (d : DT_) (u : DA_) : DA_ := fun env Q E => d env (fun x => match x with | .tp ys => u env (fun xs => Q (ys ++ xs)) E | .ls ys => u env (fun xs => Q (ys ++ xs)) E | _ => False) E
abbrev szOk (n : Nat) : Prop := n ≤ sizeLine
def dTup (u : DA_) : DT_ := fun env Q E => u env (fun xs => szOk xs.length ∧ Q (.tp xs)) E
def dLst (u : DA_) : DT_ := fun env Q E => u env (fun xs => szOk xs.length ∧ Q (.ls xs)) E
theorem de_tup {es : List Expr} {u : DA_} {x1} (h : DA X E es u) : DE X E (.Tuple es x1 pos) (dTup u) := by
  obtain ⟨t, p, q⟩ := h.run
  refine ⟨_, pe_tup p, fun Z S H σ env Q Qd Ed g r l h k => ?_⟩
  refine q Z S H σ env _ _ Ed g r l h fun vs H1 S1 xs s1 g1 r1 h1 => ?_
  exact ⟨by rw [r1.length]; exact h1.1, (k.step s1 g1).tup g1 r1 h1.2⟩
theorem de_lst {es : List Expr} {u : DA_} (h : DA X E es u) : DE X E (.List es pos) (dLst u) := by
  obtain ⟨t, p, q⟩ := h.run
  refine ⟨_, pe_lst p, fun Z S H σ env Q Qd Ed g r l h k => ?_⟩
  refine q Z S H σ env _ _ Ed g r l h fun vs H1 S1 xs s1 g1 r1 h1 => ?_
  exact ⟨by rw [r1.length]; exact h1.1, (k.step s1 g1).lst g1 r1 h1.2⟩
def CallD (S : Sta) (r : List V → Hp → VK → Prop) (o : List D → DK → Prop) : Prop := ∀ H vs ds Q Qd, Good S H → RpL S.bx S.F vs ds → o ds Qd → Cont S H Qd Q → r vs H Q
def dCB (o : List D → DK → Prop) (u : DA_) : DT_ := fun env Q E => u env (fun xs => o xs Q) E
variable {x : Str} {p : Pos} {id T : String} {e : Expr} {es : List Expr} {u : DA_} {r : List V → Hp → VK → Prop} {o : List D → DK → Prop}
theorem de_callB (hc : CallR X (.builtin id) r) (od : ∀ S, CallD S r o) (hg : Gl X x) (hm : X.mg x = none) (hv : bootBuiltins x = some (.builtin id)) (ha : DA X E (e :: es) u) (hn : x ≠ "__name__" := by decide) (hdb : (x == ("__debug__" : Str)) = false := by decide)
    (he : starEach (e :: es) X.env = (false, eval e X.env) :: starEach es X.env := by rfl) (hpl : (backTo pos (starEach es X.env)).any (·.1) = false := by rfl) : DE X E (.Call (.Name x p) (e :: es) [] pos) (dCB o u) := by
  obtain ⟨t, p, q⟩ := ha.run
  refine ⟨_, pe_callB hc hg hm hv p hn hdb he hpl, fun Z S H σ env Q Qd Ed g r l h k => ?_⟩
  refine q Z S H σ env _ _ Ed g r l h fun vs H1 S1 xs s1 g1 r1 h1 => ?_
  exact od S1 H1 vs xs Q Qd g1 r1 h1 (k.step s1 g1)
theorem de_callTy (hc : CallR X (.type T) r) (od : ∀ S, CallD S r o) (hg : Gl X x) (hm : X.mg x = none) (hv : bootBuiltins x = some (.type T)) (ha : DA X E (e :: es) u) (hn : x ≠ "__name__" := by decide) (hdb : (x == ("__debug__" : Str)) = false := by decide)
    (he : starEach (e :: es) X.env = (false, eval e X.env) :: starEach es X.env := by rfl) (hpl : (backTo pos (starEach es X.env)).any (·.1) = false := by rfl) : DE X E (.Call (.Name x p) (e :: es) [] pos) (dCB o u) := by
  obtain ⟨t, p, q⟩ := ha.run
  refine ⟨_, pe_callTy hc hg hm hv p hn hdb he hpl, fun Z S H σ env Q Qd Ed g r l h k => ?_⟩
  refine q Z S H σ env _ _ Ed g r l h fun vs H1 S1 xs s1 g1 r1 h1 => ?_
  exact od S1 H1 vs xs Q Qd g1 r1 h1 (k.step s1 g1)
end
def oAdd (x y : D) (Q : DK) : Prop := match x, y with
  | .it i, .it j => Q (.it (i + j))
  | .st i, .st j => szOk (i.length + j.length) ∧ Q (.st (i ++ j))
  | .tp i, .tp j => szOk (i.length + j.length) ∧ Q (.tp (i ++ j))
  | .ls i, .ls j => szOk (i.length + j.length) ∧ Q (.ls (i ++ j))
  | _, _ => False
def rAddA (K : PySem.W.Frag) : R2 := fun x y H Q => rI0 (fun i j => .int (i + j)) x y H Q ∨ (∃ i j, x = .str i ∧ y = .str j ∧ i.length + j.length ≤ sizeLine ∧ Q (.str (i ++ j)) H) ∨ rCatA K x y H Q ∨ rCat x y H Q
theorem or_addA {X : Cx} : OpR X (binaryOp .Add) (rAddA X.K) := op_add.or (op_add_str.or (op_catA.or op_cat))
theorem od_add {K : PySem.W.Frag} (S : Sta) : OpD S (rAddA K) oAdd := by
  intro H x y dx dy Q Qd g rx ry h k
  unfold oAdd at h
  split at h
  · cases rx; cases ry
    exact .inl ⟨_, _, rfl, rfl, k.now g (.it _) h⟩
  · cases rx; cases ry
    exact .inr (.inl ⟨_, _, rfl, rfl, h.1, k.now g (.st _) h.2⟩)
  · next ds es =>
    cases rx with
    | tp e1 r1 =>
      cases ry with
      | tp e2 r2 =>
        refine .inr (.inr (.inl ⟨_, _, _, _, rfl, rfl, SqT.of (g.fz _ _ e1), SqT.of (g.fz _ _ e2), by rw [r1.length, r2.length]; exact h.1, fun z => ?_, fun _ z => ?_, fun _ _ => k.tup g (r1.app r2) h.2⟩))
        · subst z
          cases r1
          exact k.now g (.tp e2 r2) h.2
        · subst z
          cases r2
          exact k.now g (.tp e1 r1) (by have := h.2; rwa [List.append_nil] at this)
  · next ds es =>
    cases rx with
    | ls e1 r1 =>
      cases ry with
      | ls e2 r2 =>
        exact .inr (.inr (.inr ⟨_, _, _, _, rfl, rfl, g.fz _ _ e1, g.fz _ _ e2, by rw [r1.length, r2.length]; exact h.1, k.lst g (r1.app r2) h.2⟩))
  · exact h.elim
def oI (C : Int → Int → Prop) (f : Int → Int → D) (x y : D) (Q : DK) : Prop := match x, y with | .it i, .it j => C i j ∧ Q (f i j) | _, _ => False
def oI0 (f : Int → Int → D) (x y : D) (Q : DK) : Prop := match x, y with | .it i, .it j => Q (f i j) | _, _ => False
theorem od_I {C : Int → Int → Prop} {f : Int → Int → Int} (S : Sta) : OpD S (rI C fun i j => .int (f i j)) (oI C fun i j => .it (f i j)) := by
  intro H x y dx dy Q Qd g rx ry h k
  unfold oI at h
  split at h
  · cases rx; cases ry
    exact ⟨_, _, rfl, rfl, h.1, k.now g (.it _) h.2⟩
  · exact h.elim
theorem od_B0 {f : Int → Int → Bool} (S : Sta) : OpD S (rI0 fun i j => .bl (f i j)) (oI0 fun i j => .bl (f i j)) := by
  intro H x y dx dy Q Qd g rx ry h k
  unfold oI0 at h
  split at h
  · cases rx; cases ry
    exact ⟨_, _, rfl, rfl, k.now g (.bl _) h⟩
  · exact h.elim
abbrev oSub := oI0 fun i j => .it (i - j)
abbrev oFdiv := oI CDivW fun i j => .it (i / j)
abbrev oMod := oI (fun _ j => 0 < j) fun i j => .it (i % j)
abbrev oPow := oI CPow fun i j => .it (i ^ j.toNat)
abbrev oLt := oI0 fun i j => .bl (decide (i < j))
abbrev oLe := oI0 fun i j => .bl (decide (i ≤ j))
abbrev oGt := oI0 fun i j => .bl (decide (j < i))
abbrev oGe := oI0 fun i j => .bl (decide (j ≤ i))
def oMul (x y : D) (Q : DK) : Prop := match x, y with
  | .it i, .it j => CMul i j ∧ Q (.it (i * j))
  | .tp i, .it j => i ≠ [] ∧ 2 ≤ j ∧ j ≤ 1000 ∧ i.length ≤ 1000 ∧ Q (.tp (List.replicate j.toNat i).flatten)
  | .ls i, .it j => -(2 ^ 63) ≤ j ∧ j < 2 ^ 63 ∧ szOk (i.length * j.toNat) ∧ Q (.ls (List.replicate j.toNat i).flatten)
  | _, _ => False
def rMulA (K : PySem.W.Frag) : R2 := fun x y H Q => rI CMul (fun i j => .int (i * j)) x y H Q ∨ rRepT K x y H Q ∨ rRep x y H Q
theorem or_mulA {X : Cx} : OpR X (binaryOp .Mult) (rMulA X.K) := op_mul.or (op_repT.or op_rep)
theorem RpL.rep {t : Option Bx} {F : Hp} {vs : List V} {ds : List D} (r : RpL t F vs ds) : ∀ n : Nat, RpL t F (List.replicate n vs).flatten (List.replicate n ds).flatten
  | 0 => .nil
  | n + 1 => by
    rw [List.replicate_succ, List.replicate_succ, List.flatten_cons, List.flatten_cons]
    exact r.app (RpL.rep r n)
theorem od_mul {K : PySem.W.Frag} (S : Sta) : OpD S (rMulA K) oMul := by
  intro H x y dx dy Q Qd g rx ry h k
  unfold oMul at h
  split at h
  · cases rx; cases ry
    exact .inl ⟨_, _, rfl, rfl, h.1, k.now g (.it _) h.2⟩
  · cases ry
    cases rx with
    | tp e1 r1 =>
      refine .inr (.inl ⟨_, _, _, rfl, rfl, SqT.of (g.fz _ _ e1), fun z => ?_, h.2.1, h.2.2.1, by rw [r1.length]; exact h.2.2.2.1, k.tup g (r1.rep _) h.2.2.2.2⟩)
      subst z
      cases r1
      exact h.1 rfl
  · cases ry
    cases rx with
    | ls e1 r1 => exact .inr (.inr ⟨_, _, _, rfl, rfl, g.fz _ _ e1, h.1, h.2.1, by rw [r1.length]; exact h.2.2.1, k.lst g (r1.rep _) h.2.2.2⟩)
  · exact h.elim
section
variable {X : Cx} {E : XK} {pos : Pos} {a b c : Expr} {da db dc : DT_}
theorem de_add (ha : DE X E a da) (hb : DE X E b db) : DE X E (.BinOp a .Add b pos) (dOp oAdd da db) := de_bin or_addA od_add ha hb
theorem de_mul (ha : DE X E a da) (hb : DE X E b db) : DE X E (.BinOp a .Mult b pos) (dOp oMul da db) := de_bin or_mulA od_mul ha hb
theorem de_pow (ha : DE X E a da) (hb : DE X E b db) : DE X E (.BinOp a .Pow b pos) (dOp oPow da db) := de_bin op_pow od_I ha hb
theorem db_lt (ha : DE X E a da) (hb : DE X E b db) : DB X E (.Compare a [.Lt] [b] pos) (dTst (dOp oLt da db)) := db_cmp op_lt od_B0 ha hb
theorem db_ge (ha : DE X E a da) (hb : DE X E b db) : DB X E (.Compare a [.GtE] [b] pos) (dTst (dOp oGe da db)) := db_cmp op_ge od_B0 ha hb
def dNeg (da : DT_) : DT_ := fun env Q E => da env (fun x => match x with | .it i => Q (.it (-i)) | _ => False) E
theorem de_neg (ha : DE X E a da) : DE X E (.UnaryOp .USub a pos) (dNeg da) := by
  obtain ⟨t, p, q⟩ := ha.run
  refine ⟨_, pe_un un_neg p, fun Z S H σ env Q Qd Ed g r l h k => ?_⟩
  refine q Z S H σ env _ _ Ed g r l h fun v H1 S1 x s1 g1 r1 h1 => ?_
  split at h1
  · cases r1
    exact ⟨_, rfl, k _ H1 S1 _ s1 g1 (.it _) h1⟩
  · exact h1.elim
def dChain (o o' : D → D → DK → Prop) (da db dc : DT_) : DT_ := fun env Q E => da env (fun x => db env (fun y => o x y fun z => match z with | .bl true => dc env (fun w => o' y w Q) E | .bl false => Q (.bl false) | _ => False) E) E
def isNon : D → Bool | .non => true | _ => false
def dIsN (da : DT_) : DT_ := fun env Q E => da env (fun x => Q (.bl (isNon x))) E
def dNotN (da : DT_) : DT_ := fun env Q E => da env (fun x => Q (.bl (!isNon x))) E
def tyD : D → String
  | .non => "NoneType" | .bl _ => "bool" | .it _ => "int" | .st _ => "str" | .tp _ => "tuple" | .ls _ => "list" | .dc _ => "dict" | .bx k _ => if k then "list" else "dict" | .vo _ _ => "NoneType"
def isT (T : String) (d : D) : Bool := (kitB (tyD d) T).getD false
def dIsi (T : String) (da : DT_) : DT_ := fun env Q E => da env (fun x => Q (.bl (isT T x))) E
def oLen (xs : List D) (Q : DK) : Prop := match xs with
  | [.tp ys] => Q (.it ys.length)
  | [.ls ys] => Q (.it ys.length)
  | [.st z] => szOk z.length ∧ Q (.it z.length)
  | _ => False
theorem cd_len (S : Sta) {K : PySem.W.Frag} : CallD S (fun xs H Q => ∃ x n, xs = [x] ∧ LenV K x H n ∧ Q (.int (n : Nat)) H) oLen := by
  intro H vs ds Q Qd g r h k
  unfold oLen at h
  split at h
  · next ys =>
    cases r with
    | cons r1 r2 =>
      cases r2
      cases r1 with
      | tp e rr => exact ⟨_, _, rfl, .inr ⟨_, SqT.of (g.fz _ _ e), rfl⟩, by rw [rr.length]; exact k.now g (.it _) h⟩
  · next ys =>
    cases r with
    | cons r1 r2 =>
      cases r2
      cases r1 with
      | ls e rr => exact ⟨_, _, rfl, .inl ⟨_, SqL.of (g.fz _ _ e), rfl⟩, by rw [rr.length]; exact k.now g (.it _) h⟩
  · next z =>
    cases r with
    | cons r1 r2 =>
      cases r2
      cases r1
      exact ⟨_, _, rfl, ⟨h.1, rfl⟩, k.now g (.it _) h.2⟩
  · exact h.elim
theorem de_len {u : DA_} {e : Expr} {p : Pos} (hg : Gl X "len") (hm : X.mg "len" = none) (ha : DA X E [e] u) (he : starEach [e] X.env = (false, eval e X.env) :: starEach [] X.env := by rfl) : DE X E (.Call (.Name "len" p) [e] [] pos) (dCB oLen u) :=
  de_callB call_len (fun S => cd_len S) hg hm PySem.boot_len ha (by decide) (by decide) he rfl
def oIx (x y : D) (Q : DK) : Prop := match x, y with
  | .tp xs, .it i => match atI xs i with | some d => Q d | none => False
  | .ls xs, .it i => match atI xs i with | some d => Q d | none => False
  | .st z, .it i => szOk z.length ∧ match atI z.cps.toList i with | some c => Q (.st ⟨#[c]⟩) | none => False
  | _, _ => False
theorem atI_rp {t : Option Bx} {F : Hp} {vs : List V} {ds : List D} (r : RpL t F vs ds) {i : Int} {d : D} (h : atI ds i = some d) : ∃ v, atI vs i = some v ∧ Rp t F v d := by
  unfold atI at h ⊢
  rw [← r.length] at h
  cases e : ixN vs.length i with
  | none => rw [e] at h; cases h
  | some j =>
    rw [e] at h
    obtain ⟨v, h1, h2⟩ := r.getD (i := j) h
    exact ⟨v, h1, h2⟩
theorem od_ix {K : PySem.W.Frag} (S : Sta) : OpD S (rIx K) oIx := by
  intro H x y dx dy Q Qd g rx ry h k
  unfold oIx at h
  split at h
  · cases ry
    cases rx with
    | tp e r =>
      split at h
      · next d ed =>
        obtain ⟨v, h1, h2⟩ := atI_rp r ed
        exact .inr (.inl ⟨_, _, _, v, rfl, rfl, SqT.of (g.fz _ _ e), h1, k.now g h2 h⟩)
      · exact h.elim
  · cases ry
    cases rx with
    | ls e r =>
      split at h
      · next d ed =>
        obtain ⟨v, h1, h2⟩ := atI_rp r ed
        exact .inl ⟨_, _, _, v, rfl, rfl, SqL.of (g.fz _ _ e), h1, k.now g h2 h⟩
      · exact h.elim
  · cases ry; cases rx
    obtain ⟨hz, h⟩ := h
    split at h
    · next c ec => exact .inr (.inr ⟨_, _, c, rfl, rfl, hz, ec, k.now g (.st _) h⟩)
    · exact h.elim
  · exact h.elim
theorem de_ix (ha : DE X E a da) (hb : DE X E b db) (hs : PlainIx b := by exact fun _ _ => rfl) : DE X E (.Subscript a b pos) (dOp oIx da db) := by
  obtain ⟨ta, pa, ra⟩ := ha.run
  obtain ⟨tb, pb, rb⟩ := hb.run
  refine ⟨_, pe_ix ix_seq pa pb hs, fun Z S H σ env Q Qd Ed g r l h k => ?_⟩
  refine ra Z S H σ env _ _ Ed g r l h fun x H1 S1 dx s1 g1 r1 h1 => ?_
  refine rb Z S1 H1 σ env _ _ Ed g1 (r.step s1) (l.step s1 g1) h1 fun y H2 S2 dy s2 g2 r2 h2 => ?_
  exact od_ix S2 H2 x y dx dy Q Qd g2 (r1.le s2.le) r2 h2 ((k.step s1 g1).step s2 g2)
def cutD (xs : List D) (lo hi : Option Int) : List D := (xs.drop (HT.sIx xs.length 0 lo)).take (HT.sIx xs.length xs.length hi - HT.sIx xs.length 0 lo)
theorem RpL.cut {t : Option Bx} {F : Hp} {vs : List V} {ds : List D} (r : RpL t F vs ds) (lo hi : Option Int) : RpL t F (cutV vs lo hi) (cutD ds lo hi) := by
  unfold cutV cutD
  rw [r.length]
  exact (r.drop _).take _
def oSl (x : D) (lo hi : Option Int) (Q : DK) : Prop := match x with
  | .tp xs => Q (.tp (cutD xs lo hi))
  | .ls xs => Q (.ls (cutD xs lo hi))
  | .st z => szOk z.length ∧ Q (.st (cutS z lo hi))
  | _ => False
abbrev DO_ := Env' → (Option Int → Prop) → EK → Prop
def ContO (S : Sta) (H : Hp) (Qd : Option Int → Prop) (Q : Option Int → Hp → Prop) : Prop := ∀ b H' S', Stp S H S' H' → Good S' H' → Qd b → Q b H'
structure DO (X : Cx) (E : XK) (e : Option Expr) (d : DO_) : Prop where
  run : ∃ t, PO X e t ∧ ∀ Z S H σ env Q Qd Ed, Good S H → Rel Z S H σ env → XLink X.mg S H Ed E → d env Qd Ed → ContO S H Qd Q → t σ H Q
def dNoPart : DO_ := fun _ Q _ => Q none
def dPart (da : DT_) : DO_ := fun env Q E => da env (fun x => match x with | .it i => Q (some i) | _ => False) E
def dSl (da : DT_) (dl dh : DO_) : DT_ := fun env Q E => da env (fun x => dl env (fun lo => dh env (fun hi => oSl x lo hi Q) E) E) E
def oList (xs : List D) (Q : DK) : Prop := match xs with | [.tp ys] => Q (.ls ys) | [.ls ys] => Q (.ls ys) | _ => False
def oTuple (xs : List D) (Q : DK) : Prop := match xs with | [.tp ys] => Q (.tp ys) | [.ls ys] => Q (.tp ys) | _ => False
end
structure Base where
  S0 : Sta
  H0 : Hp
  F : Hp
  T : Option Bx
structure At (B : Base) (S : Sta) (H : Hp) : Prop where
  g : Good S H
  p : Stp B.S0 B.H0 S H
  f : Le B.T B.F S.bx S.F
theorem Le.trans {t1 t2 t3 : Option Bx} {F1 F2 F3 : Hp} (a : Le t1 F1 t2 F2) (b : Le t2 F2 t3 F3) : Le t1 F1 t3 F3 := ⟨fun x o e => b.f x o (a.f x o e), fun x e => b.t x (a.t x e)⟩
theorem Le.refl (t : Option Bx) (F : Hp) : Le t F t F := ⟨fun _ _ e => e, fun _ e => e⟩
theorem At.step {B : Base} {S S' : Sta} {H H' : Hp} (a : At B S H) (p : Stp S H S' H') (g : Good S' H') : At B S' H' := ⟨g, a.p.trans a.g p, a.f.trans p.le⟩
def Base.now (B : Base) (S : Sta) : Base := { B with F := S.F, T := S.bx }
theorem At.now {B : Base} {S : Sta} {H : Hp} (a : At B S H) : At (B.now S) S H := ⟨a.g, a.p, .refl _ _⟩
theorem At.was {B : Base} {S S' : Sta} {H H' : Hp} (a : At B S H) (b : At (B.now S) S' H') : At B S' H' := ⟨b.g, b.p, a.f.trans b.f⟩
structure DEnds where
  nx : Env' → Prop
  rt : DK
  ex : EK
  bk : Env' → Prop := fun _ => False
  ct : Env' → Prop := fun _ => False
  ro : Env' → DK := fun _ _ => False
structure Lnk (mg : Str → Option Value) (E : XK) (B : Base) (De : DEnds) (Dn : Ends) : Prop where
  nx : ∀ S σ env H, At B S H → Rel B.H0 S H σ env → De.nx env → Dn.nx σ H
  bk : ∀ S σ env H, At B S H → Rel B.H0 S H σ env → De.bk env → Dn.bk σ H
  ct : ∀ S σ env H, At B S H → Rel B.H0 S H σ env → De.ct env → Dn.ct σ H
  rt : ∀ S v d H, At B S H → Rp S.bx S.F v d → De.rt d → Dn.rt v H
  ex : XLink mg B.S0 B.H0 De.ex E
  ro : ∀ S σ env v d H, At B S H → Rel B.H0 S H σ env → Rp S.bx S.F v d → De.ro env d → Dn.rt v H
theorem Lnk.xl {mg : Str → Option Value} {E : XK} {B : Base} {De : DEnds} {Dn : Ends} (l : Lnk mg E B De Dn) {S : Sta} {H : Hp} (a : At B S H) : XLink mg S H De.ex E := l.ex.step a.p a.g
abbrev DS_ := DEnds → Env' → Prop
structure DS (X : Cx) (E : XK) (st : Stmt) (d : DS_) : Prop where
  run : ∃ t, PS X st t ∧ ∀ B De Dn, Lnk X.mg E B De Dn → ∀ S σ env H, At B S H → Rel B.H0 S H σ env → d De env → t Dn σ H
structure DSs (X : Cx) (E : XK) (st : List Stmt) (d : DS_) : Prop where
  run : ∃ t, PSs X st t ∧ ∀ B De Dn, Lnk X.mg E B De Dn → ∀ S σ env H, At B S H → Rel B.H0 S H σ env → d De env → t Dn σ H
section
variable {X : Cx} {E : XK} {pos : Pos} {st : Stmt} {rest : List Stmt} {d u : DS_} {e : Expr} {de : DT_}
def dNext : DS_ := fun D env => D.nx env
def dSeq (d u : DS_) : DS_ := fun D env => d { D with nx := u D } env
theorem ds_nil : DSs X E [] dNext := ⟨_, pss_nil, fun _ _ _ l S σ env H a r h => l.nx S σ env H a r h⟩
theorem ds_cons (h1 : DS X E st d) (h2 : DSs X E rest u) : DSs X E (st :: rest) (dSeq d u) := by
  obtain ⟨t, p, q⟩ := h1.run
  obtain ⟨t', p', q'⟩ := h2.run
  refine ⟨_, pss_cons p p', fun B De Dn l S σ env H a r h => ?_⟩
  exact q B { De with nx := u De } { Dn with nx := t' Dn } ⟨fun S σ env H a r h => q' B De Dn l S σ env H a r h, l.bk, l.ct, l.rt, l.ex, l.ro⟩ S σ env H a r h
theorem ds_one (h1 : DS X E st d) : DSs X E [st] d := let ⟨t, p, q⟩ := h1.run; ⟨t, pss_one p, q⟩
def dBreak : DS_ := fun D env => D.bk env
def dContinue : DS_ := fun D env => D.ct env
def dRet (de : DT_) : DS_ := fun D env => de env D.rt D.ex
theorem ds_ret (he : DE X E e de) : DS X E (.Return (some e) pos) (dRet de) := by
  obtain ⟨t, p, q⟩ := he.run
  refine ⟨_, ps_ret p, fun B De Dn l S σ env H a r h => ?_⟩
  exact q _ S H σ env _ _ _ a.g r (l.xl a) h fun v H1 S1 x s1 g1 r1 h1 => l.rt S1 v x H1 (a.step s1 g1) r1 h1
def dRetN : DS_ := fun D _ => D.rt .non
def dDrop (de : DT_) : DS_ := fun D env => de env (fun _ => D.nx env) D.ex
def dIfS (t : DB_) (d u : DS_) : DS_ := fun D env => t env (fun b => match b with | true => d D env | false => u D env) D.ex
theorem ds_if {c : Expr} {ss rs : List Stmt} {t : DB_} (hc : DB X E c t) (hd : DSs X E ss d) (hu : DSs X E rs u) : DS X E (.If c ss rs pos) (dIfS t d u) := by
  obtain ⟨tc, p, q⟩ := hc.run
  obtain ⟨t1, p1, q1⟩ := hd.run
  obtain ⟨t2, p2, q2⟩ := hu.run
  refine ⟨_, ps_if p p1 p2, fun B De Dn l S σ env H a r h => ?_⟩
  refine q _ S H σ env _ _ _ a.g r (l.xl a) h fun b H1 S1 s1 g1 h1 => ?_
  cases b with
  | true => rw [if_pos rfl]; exact q1 B De Dn l S1 σ env H1 (a.step s1 g1) (r.step s1) h1
  | false => rw [if_neg Bool.false_ne_true]; exact q2 B De Dn l S1 σ env H1 (a.step s1 g1) (r.step s1) h1
abbrev DG_ := D → Env' → (Env' → Prop) → Prop
structure DG (X : Cx) (tg : Expr) (vs : List Nat) (d : DG_) : Prop where
  run : ∃ g, PG X tg g ∧ ∀ Z S H σ env x dx Q Qd, Rel Z S H σ env → Good S H → Rp S.bx S.F x dx → d dx env Qd → (∀ σ2 env2, Rel Z S H σ2 env2 → Qd env2 → (∀ ws : List Nat, (∀ i ∈ vs, i ∈ ws) → wipe σ2 ws = wipe σ ws) → Q σ2 H) → g x σ H Q
structure DGs (X : Cx) (tg : List Expr) (vs : List Nat) (d : List D → Env' → (Env' → Prop) → Prop) : Prop where
  run : ∃ g, PGs X tg g ∧ ∀ Z S H σ env xs ds Q Qd, Rel Z S H σ env → Good S H → RpL S.bx S.F xs ds → d ds env Qd → (∀ σ2 env2, Rel Z S H σ2 env2 → Qd env2 → (∀ ws : List Nat, (∀ i ∈ vs, i ∈ ws) → wipe σ2 ws = wipe σ ws) → Q σ2 H) → g xs σ H Q
theorem wipe_set {σ : L2.St} {i : Nat} {v : Option V} : ∀ {ws : List Nat}, i ∈ ws → wipe (σ.set i v) ws = wipe σ ws
  | j :: ws, h => by
    unfold wipe
    by_cases e : i ∈ ws
    · rw [wipe_set e]
    · have : i = j := by
        rcases List.mem_cons.mp h with h | h
        · exact h
        · exact absurd h e
      subst this
      have wc : ∀ (ws : List Nat) (τ : L2.St) (w : Option V), i ∉ ws → wipe (τ.set i w) ws = (wipe τ ws).set i w := by
        intro ws
        induction ws with
        | nil => intro τ w _; rfl
        | cons k r ih =>
          intro τ w hk
          unfold wipe
          rw [ih τ w (fun z => hk (List.mem_cons_of_mem _ z))]
          have : i ≠ k := fun z => hk (by rw [z]; exact List.mem_cons_self)
          rw [List.set_comm _ _ this]
      rw [wc ws σ v e, List.set_set]
def dgName (i : Nat) : DG_ := fun x env Q => Q (env.set i (.v x))
theorem dg_name (i : Nat) {x : Str} (hN : X.N.Nodup) (hi : X.N[i]? = some x := by rfl) (hx : Loc X.env.scope x := by first | exact Or.inl rfl | exact Or.inr rfl) (hf : X.fn x = true ∨ X.env.scope.names.lookup x = some .local := by first | exact .inl rfl | exact .inr rfl | assumption) :
    DG X (.Name x pos) [i] (dgName i) := by
  refine ⟨_, pg_name hN hi hx hf, fun Z S H σ env x dx Q Qd r g rx h k => ?_⟩
  exact k _ _ (r.put rx) h fun ws hw => wipe_set (hw i (by simp))
def dgNil : List D → Env' → (Env' → Prop) → Prop := fun xs env Q => match xs with | [] => Q env | _ => False
def dgCons (d : DG_) (u : List D → Env' → (Env' → Prop) → Prop) : List D → Env' → (Env' → Prop) → Prop := fun xs env Q => match xs with | x :: r => d x env (fun env1 => u r env1 Q) | [] => False
theorem dgs_nil : DGs X [] [] dgNil := by
  refine ⟨_, pgs_nil, fun Z S H σ env xs ds Q Qd r g rx h k => ?_⟩
  cases rx with
  | nil => exact ⟨rfl, k σ env r h fun _ _ => rfl⟩
  | cons => exact h.elim
theorem dgs_cons {tgs : List Expr} {vs ws : List Nat} {d : DG_} {u : List D → Env' → (Env' → Prop) → Prop} (h1 : DG X e vs d) (h2 : DGs X tgs ws u) (hs : (assignEach (e :: tgs) X.env).map (·.2) = assign e X.env :: (assignEach tgs X.env).map (·.2) := by rfl) :
    DGs X (e :: tgs) (vs ++ ws) (dgCons d u) := by
  obtain ⟨g1, p1, q1⟩ := h1.run
  obtain ⟨g2, p2, q2⟩ := h2.run
  refine ⟨_, pgs_cons p1 p2 hs, fun Z S H σ env xs ds Q Qd r g rx h k => ?_⟩
  cases rx with
  | nil => exact h.elim
  | cons rx rs =>
    refine ⟨_, _, rfl, q1 Z S H σ env _ _ _ _ r g rx h fun σ2 env2 r2 h2 w2 => ?_⟩
    refine q2 Z S H σ2 env2 _ _ _ _ r2 g rs h2 fun σ3 env3 r3 h3 w3 => ?_
    exact k σ3 env3 r3 h3 fun l hl => (w3 l fun i hi => hl i (List.mem_append_right _ hi)).trans (w2 l fun i hi => hl i (List.mem_append_left _ hi))
def dgTup (n : Nat) (u : List D → Env' → (Env' → Prop) → Prop) : DG_ := fun x env Q => match x with | .tp xs => xs.length = n ∧ u xs env Q | _ => False
theorem dg_tup {tgs : List Expr} {k : Nat} {vs : List Nat} {n : Nat} {u : List D → Env' → (Env' → Prop) → Prop} (hc : X.calm = true) (h : DGs X tgs vs u) (hn : (assignEach tgs X.env).length = n := by rfl) (hst : (assignEach tgs X.env).findIdx? (·.1) = none := by rfl) :
    DG X (.Tuple tgs k pos) vs (dgTup n u) := by
  obtain ⟨g, p, q⟩ := h.run
  refine ⟨_, pg_tup hc p hn hst, fun Z S H σ env x dx Q Qd r g rx h k => ?_⟩
  unfold dgTup at h
  split at h
  · cases rx with
    | tp e rr => exact ⟨_, _, rfl, SqT.of (g.fz _ _ e), by rw [rr.length]; exact h.1, q Z S H σ env _ _ _ _ r g rr h.2 k⟩
  · exact h.elim
def dgLst (n : Nat) (u : List D → Env' → (Env' → Prop) → Prop) : DG_ := fun x env Q => match x with | .ls xs => xs.length = n ∧ u xs env Q | _ => False
theorem dg_lst {tgs : List Expr} {k : Nat} {vs : List Nat} {n : Nat} {u : List D → Env' → (Env' → Prop) → Prop} (hc : X.calm = true) (h : DGs X tgs vs u) (hn : (assignEach tgs X.env).length = n := by rfl) (hst : (assignEach tgs X.env).findIdx? (·.1) = none := by rfl) :
    DG X (.Tuple tgs k pos) vs (dgLst n u) := by
  obtain ⟨g, p, q⟩ := h.run
  refine ⟨_, pg_lst hc p hn hst, fun Z S H σ env x dx Q Qd r g rx h k => ?_⟩
  unfold dgLst at h
  split at h
  · cases rx with
    | ls e rr => exact ⟨_, _, rfl, SqL.of (g.fz _ _ e), by rw [rr.length]; exact h.1, q Z S H σ env _ _ _ _ r g rr h.2 k⟩
  · exact h.elim
def dAsg (de : DT_) (dg : DG_) : DS_ := fun D env => de env (fun x => dg x env D.nx) D.ex
theorem ds_asg {tg : Expr} {vs : List Nat} {dg : DG_} (he : DE X E e de) (hg : DG X tg vs dg) (hs : swapsWithSole [tg] e pos.line X.env = pure false := by rfl) (hw : swappedStores [tg] e X.env = pure none := by rfl)
    (h1 : (assignEach [tg] X.env).map (·.2) = [assign tg X.env] := by rfl) : DS X E (.Assign [tg] e pos) (dAsg de dg) := by
  obtain ⟨t, p, q⟩ := he.run
  obtain ⟨g, pg, qg⟩ := hg.run
  refine ⟨_, ps_asg p pg hs hw h1, fun B De Dn l S σ env H a r h => ?_⟩
  refine q _ S H σ env _ _ _ a.g r (l.xl a) h fun v H1 S1 x s1 g1 r1 h1 => ?_
  exact qg _ S1 H1 σ env v x _ _ (r.step s1) g1 r1 h1 fun σ2 env2 r2 h2 _ => l.nx S1 σ2 env2 H1 (a.step s1 g1) r2 h2
def dSet (i : Nat) (de : DT_) : DS_ := fun D env => de env (fun x => D.nx (env.set i (.v x))) D.ex
theorem ds_set (i : Nat) {x : Str} {p' : Pos} (he : DE X E e de) (hN : X.N.Nodup) (hi : X.N[i]? = some x := by rfl) (hx : Loc X.env.scope x := by first | exact Or.inl rfl | exact Or.inr rfl) (hs : swapsWith e (some (.Name x p')) pos.line X.env = pure false := by rfl)
    (hf : X.fn x = true ∨ X.env.scope.names.lookup x = some .local := by first | exact .inl rfl | exact .inr rfl | assumption) : DS X E (.Assign [.Name x p'] e pos) (dSet i de) := by
  obtain ⟨t, p, q⟩ := he.run
  refine ⟨_, ps_set hN hi hx p hs hf, fun B De Dn l S σ env H a r h => ?_⟩
  refine q _ S H σ env _ _ _ a.g r (l.xl a) h fun v H1 S1 x s1 g1 r1 h1 => ?_
  exact l.nx S1 _ _ H1 (a.step s1 g1) ((r.step s1).put r1) h1
def dPar (i j : Nat) (da : DA_) : DS_ := fun D env => da env (fun xs => match xs with | [x, y] => D.nx ((env.set i (.v x)).set j (.v y)) | _ => False) D.ex
theorem ds_par {i j : Nat} {x y : Str} {a b : Expr} {da : DA_} {px py pt : Pos} {kt k2 pt2} (hc : X.calm = true) (hN : X.N.Nodup) (ha : DA X E [a, b] da)
    (hw : swappedStores [.Tuple [.Name x px, .Name y py] kt pt] (.Tuple [a, b] k2 pt2) X.env = pure (some [x, y])) (hi : X.N[i]? = some x := by rfl) (hj : X.N[j]? = some y := by rfl) (hij : i ≠ j := by decide)
    (hx : X.env.scope.names.lookup x = some .local := by rfl) (hy : X.env.scope.names.lookup y = some .local := by rfl)
    (hs : swapsWithSole [.Tuple [.Name x px, .Name y py] kt pt] (.Tuple [a, b] k2 pt2) pos.line X.env = pure false := by rfl) :
    DS X E (.Assign [.Tuple [.Name x px, .Name y py] kt pt] (.Tuple [a, b] k2 pt2) pos) (dPar i j da) := by
  obtain ⟨t, p, q⟩ := ha.run
  refine ⟨_, ps_par hc hN hi hj hij hx hy p hw hs, fun B De Dn l S σ env H a r h => ?_⟩
  refine q _ S H σ env _ _ _ a.g r (l.xl a) h fun vs H1 S1 xs s1 g1 r1 h1 => ?_
  split at h1
  · cases r1 with
    | cons r1 r2 =>
      cases r2 with
      | cons r2 r3 =>
        cases r3
        exact ⟨_, _, rfl, l.nx S1 _ _ H1 (a.step s1 g1) (((r.step s1).put r1).put r2) h1⟩
  · exact h1.elim
def dAug (i : Nat) (f : Int → Int → Int) (de : DT_) : DS_ := fun D env => match env[i]? with | some (.v (.it n)) => de env (fun x => match x with | .it m => D.nx (env.set i (.v (.it (f n m)))) | _ => False) D.ex | _ => False
structure DN (X : Cx) (E : XK) (e : Expr) (d : Env' → (List D → Prop) → EK → Prop) : Prop where
  run : ∃ t, PE X e t ∧ ∀ Z S H σ env Q (Qd : List D → Prop) Ed, Good S H → Rel Z S H σ env → XLink X.mg S H Ed E → d env Qd Ed →
    (∀ p H' S' vs xs, Stp S H S' H' → Good S' H' → H p = none → H' p = some (.lst vs) → S'.F p = none → ¬ InB S'.bx p → RpL S'.bx S'.F vs xs → Qd xs → Q (.ref p) H') → t σ H Q
abbrev DN_ := Env' → (List D → Prop) → EK → Prop
def dFrz (d : DN_) : DT_ := fun env Q E => d env (fun xs => Q (.ls xs)) E
theorem DN.toDE {d : DN_} (h : DN X E e d) : DE X E e (dFrz d) := by
  obtain ⟨t, p, q⟩ := h.run
  refine ⟨_, p, fun Z S H σ env Q Qd Ed g r l h k => ?_⟩
  refine q Z S H σ env _ _ Ed g r l h fun p H' S' vs xs s' g' h0 h1 h2 h3 r' h' => ?_
  have le : Le S'.bx S'.F S'.bx (upd S'.F p (.lst vs)) := ⟨fun b o e => by
    have : b ≠ p := fun z => by rw [z, h2] at e; cases e
    rw [upd_ne this]; exact e, fun x e => e⟩
  refine k _ H' ⟨S'.bx, upd S'.F p (.lst vs)⟩ (.ls xs) ⟨fun a o e => le.f a o (s'.ext a o e), fun a o e => ?_, s'.box, s'.keep⟩ (good_frz g' h1 h3) (.ls (by show upd S'.F p (.lst vs) p = _; exact upd_same) (r'.le le)) h'
  by_cases z : a = p
  · rw [z]; exact .inr h0
  · have e' : upd S'.F p (.lst vs) a = some o := e
    rw [upd_ne z] at e'
    exact s'.new a o e'
end
set_option maxHeartbeats 8000000 in
theorem enumNew1 {v : Value} {ob : Obj} {Hq : Heap → Prop} (B : Begins v ob Hq) :
    Meets (Builtin.«enumerate.__new__» ⟨[.type "enumerate", v], []⟩) (fun _ R s0 => Hq s0.heap ∧ R (.ok (.ret (.ref (s0.heap.push ob).objs.size)))
      { s0 with heap := (s0.heap.push ob).push { cls := .type "enumerate", data := .fields #[.none, .bool false, .ref s0.heap.objs.size, rawInt 0, .none, .none] } }) :=
  .of_wp fun P W A0 R0 s0 h0 => by
    obtain ⟨hh, gg, dd, tt, oo⟩ := s0; obtain ⟨hb, hr⟩ := h0
    have subE := sub_enumerate
    have begin_ : ∀ {A1 : Around} {E1 : Value → Shared → Prop} {Q1 : Value → Shared → Prop}, Q1 (.ref hh.objs.size) ⟨hh.push ob, gg, dd, tt, oo⟩ → wpAny (model P W) A1 (pyIter v) Q1 E1 ⟨hh, gg, dd, tt, oo⟩ :=
      fun z => B.iter P W _ _ ⟨hh, gg, dd, tt, oo⟩ _ hb z
    wp_walk using begin_
    refine wpAny_stack_any fun fr => wpAny_pure ?_
    split
    · rename_i cc _ _ _ _ _
      cases (cc == Value.type "enumerate") <;> (wp_walk using begin_; exact ⟨_, rfl, hr⟩)
    · wp_walk using begin_; exact ⟨_, rfl, hr⟩
section
variable {prog : Program} {w : World} {A : Around} {E : Value → Shared → Prop} {s : Shared}
theorem callEnum1 {v : Value} {ob : Obj} {Hq : Heap → Prop} {Q : Value → Shared → Prop} (B : Begins v ob Hq) (hb : Hq s.heap)
    (k : ∀ h', IsEnum h' (s.heap.objs.size + 1) s.heap.objs.size 0 .none → h'.get? s.heap.objs.size = some ob → (∀ b o, s.heap.get? b = some o → h'.get? b = some o) → Q (.ref (s.heap.objs.size + 1)) { s with heap := h' }) :
    wpAny (model prog w) A (call (.type "enumerate") [v]) Q E s := by
  refine callType_new F.called_enumerate (by decide) (F.typeCall_enumerate_1 _) (F.newCall_enumerate_1 _) (fun z => F.args_object_init_2 z _) F.entry_enumerate_new (enumNew1 B) ⟨hb, ?_⟩
  have sz : (s.heap.push ob).objs.size = s.heap.objs.size + 1 := Heap.size_push ..
  show _ ∧ _
  rw [sz]
  have isE : IsEnum ((s.heap.push ob).push { cls := .type "enumerate", data := .fields #[.none, .bool false, .ref s.heap.objs.size, rawInt 0, .none, .none] }) (s.heap.objs.size + 1) s.heap.objs.size 0 .none := by
    have q := Heap.get?_push_size (s.heap.push ob) (o := { cls := .type "enumerate", data := .fields #[.none, .bool false, .ref s.heap.objs.size, rawInt 0, .none, .none] }) rfl
    rw [sz] at q; exact q
  exact ⟨⟨_, isE, rfl⟩, k _ isE (Heap.get?_push_of_some _ (Heap.get?_push_size _ B.free)) fun b o z => Heap.get?_push_of_some _ (Heap.get?_push_of_some _ z)⟩
end
def Itg (src : Hp → Prop) (n : Nat) (its : Nat → List V) : It :=
  ⟨fun i H => i < n ∧ src H, fun i H x H' => ∃ T, x = .ref T ∧ H T = none ∧ H' = upd H T (.tup (its i)), fun i H => i = n ∧ src H⟩
theorem turn_g {P : Program} {w : World} {K : PySem.W.Frag} {tg : Expr} {I : Addr} {fp wr sp : List Addr} {n : Nat} {src : Hp → Prop} {its : Nat → List V} {tn : Nat → Heap → Prop} {Src : Heap → Prop}
    (hI : I ∈ fp) (hw : ∀ b ∈ wr, b ∈ fp) (hl : ∀ i, i < n → (its i).length ≤ sizeLine)
    (obj : ∀ i h, tn i h → ∀ b ∈ fp, ∃ o, h.get? b = some o ∧ ∀ v, o.data ≠ .cell v) (keep : ∀ i h h', tn i h → (∀ b ∈ fp, ∀ o, h.get? b = some o → h'.get? b = some o) → tn i h')
    (hs : ∀ (X : Cx), X.prog = P → X.w = w → X.K = K → ∀ pins s σ H, Inv X pins σ H s → src H → Src s.heap)
    (self : ∀ (A : Around) (i : Nat) (s : Shared) (Q E : Value → Shared → Prop), tn i s.heap → Q (.ref I) s → wpAny (model P w) A (pyIter (.ref I)) Q E s)
    (G : ∀ A : Around, A.handled = none → GoesN P w A tg I (fp ++ sp) wr n (fun i h0 v h => ∃ T us, v = Value.ref T ∧ h0.objs.size ≤ T ∧ Vals (its i) us ∧ h.IsTuple T us.toArray) (fun i h => tn i h ∧ Src h)) :
    Turn P w K tg (Itg src n its) fp I tn where
  mem := hI
  obj := obj
  keep := keep
  item := by
    intro X hP hw' hK hc i pins s σ H E IV hf st hg
    subst hP hw' hK
    refine (G X.A (IV.ok.hd hc)).goes i s _ E hg.1 ⟨st, hs X rfl rfl rfl pins s σ H IV hg.2⟩ fun v h' tk hY st' hk htk => ?_
    obtain ⟨T, us, rfl, hT, rv, o, ho, hcl, m, hd⟩ := hY
    have new : ObjOk X.prog X.w (upd H T (.tup (its i))) h' T (.tup (its i)) := ⟨hl i hg.1, us, rv, ⟨o, ho, hcl, m, hd⟩⟩
    have I1 := IV.turnedNew (t' := tk) (ch := fp) (fun b ob hb q => hk b ob (fun z => hb (hw b z)) q) hf hT new
    refine ⟨.ref T, _, I1, rfl, ⟨T, rfl, IV.hok.fresh hT, rfl⟩, st'.1, fun b hb => ?_⟩
    obtain ⟨ob, eo, _⟩ := obj i _ st b hb
    rw [upd_ne (Nat.ne_of_lt (Nat.lt_of_lt_of_le (Heap.lt_size eo) hT))]
    exact (hf b hb).1
  done := by
    intro X hP hw' hK hc i pins s σ H E IV hf st hg
    subst hP hw' hK
    obtain ⟨rfl, hsrc⟩ := hg
    refine wpAny_mono ((G X.A (IV.ok.hd hc)).stops s (fun s1 => Inv X pins σ H s1) E ⟨st, hs X rfl rfl rfl pins s σ H IV hsrc⟩ fun h' tk hk htk => IV.turnedL (t' := tk) (ch := fp) (fun b ob hb q => hk b ob (fun z => hb (hw b z)) q) hf) (fun _ _ z => z) fun _ _ z => z
  self := self
def ItIs (b : Bool) (h : Heap) (it l : Addr) (i : Nat) : Prop := if b = true then h.IsListIter it l i else h.IsTupleIter it l i
def SqIs (b : Bool) (h : Heap) (l : Addr) (us : Array Value) : Prop := if b = true then h.IsList l us else h.IsTuple l us
def ItOb (b : Bool) (l : Addr) : Obj := if b = true then { cls := .type "list_iterator", data := .fields #[.ref l, .int 0 0] } else { cls := .type "tuple_iterator", data := .fields #[.ref l, .int 0 0] }
def SqB (b : Bool) (K : PySem.W.Frag) (H : Hp) (l : Addr) (xs : List V) : Prop := if b = true then SqL K H l xs else SqT K H l xs
theorem itIs_obj {b : Bool} {h : Heap} {it l : Addr} {i : Nat} (st : ItIs b h it l i) : ∃ o, h.get? it = some o ∧ ∀ v, o.data ≠ .cell v := by
  cases b with
  | true => obtain ⟨o, e, _, d⟩ := (show h.IsListIter it l i from st); exact ⟨o, e, fun v z => by rw [d] at z; cases z⟩
  | false => obtain ⟨o, e, _, d⟩ := (show h.IsTupleIter it l i from st); exact ⟨o, e, fun v z => by rw [d] at z; cases z⟩
theorem itIs_keep {b : Bool} {h h' : Heap} {it l : Addr} {i : Nat} (st : ItIs b h it l i) (k : ∀ o, h.get? it = some o → h'.get? it = some o) : ItIs b h' it l i := by
  cases b with
  | true => exact Heap.IsListIter.at (show h.IsListIter it l i from st) k
  | false => exact Heap.IsTupleIter.at (show h.IsTupleIter it l i from st) k
theorem itIs_new {b : Bool} {h : Heap} {it l : Addr} (e : h.get? it = some (ItOb b l)) : ItIs b h it l 0 := by
  cases b with
  | true => exact ⟨_, e, rfl, rfl⟩
  | false => exact ⟨_, e, rfl, rfl⟩
theorem begins_b (b : Bool) (l : Addr) (us : Array Value) : Begins (.ref l) (ItOb b l) fun h => SqIs b h l us := by
  cases b with
  | true => exact begins_list l us
  | false => exact begins_tuple l us
theorem begins_s (b : Bool) (l : Addr) (xs : List V) : Begins (.ref l) (ItOb b l) fun h => ∃ us, Vals xs us ∧ SqIs b h l us.toArray where
  iter := fun P w A E s Q h q => let ⟨us, _, hs⟩ := h; (begins_b b l us.toArray).iter P w A E s Q hs q
  keeps := fun h h' ⟨us, r, hs⟩ k => ⟨us, r, (begins_b b l us.toArray).keeps h h' hs k⟩
  free := (begins_b b l #[]).free
theorem draws_b {prog : Program} {w : World} {A : Around} (hh : A.handled = none) (b : Bool) (it l : Addr) (hne : l ≠ it) (us : Array Value) :
    Draws prog w A it [it, l] us.size (fun i v => us[i]? = some v) (fun i h => ItIs b h it l i ∧ SqIs b h l us) := by
  cases b with
  | true => exact Draws.list hh it l hne us
  | false => exact Draws.tuple hh it l hne us
theorem draws_s {prog : Program} {w : World} {A : Around} (hh : A.handled = none) (b : Bool) (it l : Addr) (hne : l ≠ it) (xs : List V) :
    Draws prog w A it [it, l] xs.length (fun i v => ∃ x, xs[i]? = some x ∧ RelV x v) (fun i h => ItIs b h it l i ∧ ∃ us, Vals xs us ∧ SqIs b h l us.toArray) where
  live := fun i h st => let ⟨us, _, q⟩ := st.2; (draws_b (prog := prog) (w := w) hh b it l hne us.toArray).live i h ⟨st.1, q⟩
  frame := fun i h h' st k => by
    obtain ⟨us, r, q⟩ := st.2
    have z := (draws_b (prog := prog) (w := w) hh b it l hne us.toArray).frame i h h' ⟨st.1, q⟩ k
    exact ⟨z.1, us, r, z.2⟩
  item := fun i s Q E hi st hQ => by
    obtain ⟨us, r, q⟩ := st.2
    refine (draws_b (prog := prog) (w := w) hh b it l hne us.toArray).item i s Q E (by have := r.length; simp; omega) ⟨st.1, q⟩ fun x h' tk hx st' sb => ?_
    refine hQ x h' tk ?_ ⟨st'.1, us, r, st'.2⟩ sb
    have hx' : us[i]? = some x := by simpa using hx
    have : xs[i]? = some xs[i] := List.getElem?_eq_getElem hi
    obtain ⟨u, h1, h2⟩ := r.get this
    rw [h1] at hx'; cases hx'
    exact ⟨_, this, h2⟩
  done := fun s Q E st hE => by
    obtain ⟨us, r, q⟩ := st.2
    have e : us.toArray.size = xs.length := by have := r.length; simp; omega
    refine (draws_b (prog := prog) (w := w) hh b it l hne us.toArray).done s Q E ⟨?_, q⟩ hE
    rw [e]; exact st.1
theorem sq_src {X : Cx} {pins : List (Addr × Obj)} {s : Shared} {σ : L2.St} {H : Hp} {b : Bool} {l : Addr} {xs : List V} (I : Inv X pins σ H s) (h : SqB b X.K H l xs) : ∃ us, Vals xs us ∧ SqIs b s.heap l us.toArray := by
  cases b with
  | true => obtain ⟨us, r, p, _⟩ := I.list (show SqL X.K H l xs from h); exact ⟨us, r, p.isList⟩
  | false => obtain ⟨us, r, p, _⟩ := I.tuple (show SqT X.K H l xs from h); exact ⟨us, r, p⟩
def enIts (xs : List V) (i : Nat) : List V := [.int (i : Nat), xs.getD i .non]
theorem getD_of {xs : List V} {i : Nat} {x : V} (h : xs[i]? = some x) : xs.getD i .non = x := by
  rw [List.getD_eq_getElem?_getD, h]; rfl
def iEnumB (K : PySem.W.Frag) (ta : TA) : TI := fun σ H R => ta σ H fun vs H1 => ∃ a xs b, vs = [.ref a] ∧ SqB b K H1 a xs ∧ R (Itg (fun H => SqB b K H a xs) xs.length (enIts xs)) H1
theorem pi_enumB {X : Cx} {e : Expr} {ta : TA} {p pos tpos : Pos} {elts : List Expr} {kk : Nat} (hg : Gl X "enumerate") (hm : X.mg "enumerate" = none) (ha : PA X [e] ta) (hs : starEach [e] X.env = [(false, eval e X.env)] := by rfl) :
    PI X (.Tuple elts kk tpos) (.Call (.Name "enumerate" p) [e] [] pos) (iEnumB X.K ta) := by
  refine ⟨fun pins s σ H R I h => ?_⟩
  refine Call_ (ld_blt I hg hm boot_enumerate (PyProof.Rows.callWith_type1 (thn (ha.run pos pins s σ H _ I h) fun us s1 ⟨vs, H1, I1, r1, q1⟩ => ?_) hs rfl))
  obtain ⟨a, xs, b, ex, hq, q⟩ := q1
  subst ex
  cases r1 with
  | cons r rr =>
    cases rr
    cases r
    have src0 := sq_src I1 hq
    have la : a < s1.heap.objs.size := by
      obtain ⟨us, _, z⟩ := src0
      cases b with
      | true => obtain ⟨o, z, _⟩ := (show s1.heap.IsList a us.toArray from z); exact Heap.lt_size z
      | false => obtain ⟨o, z, _⟩ := (show s1.heap.IsTuple a us.toArray from z); exact Heap.lt_size z
    refine callEnum1 (begins_s b a xs) src0 fun h' he hit hk => wpAny_pyIter_enum he ?_
    have I2 : Inv X pins σ H1 { s1 with heap := h' } := I1.kept (t' := s1.toks) hk
    have hne : (s1.heap.objs.size + 1 : Nat) ≠ s1.heap.objs.size := Nat.succ_ne_self _
    have ena : (s1.heap.objs.size + 1 : Nat) ≠ a := Nat.ne_of_gt (Nat.lt_succ_of_lt la)
    have tu : Turn X.prog X.w X.K (.Tuple elts kk tpos) (Itg (fun H => SqB b X.K H a xs) xs.length (enIts xs)) [s1.heap.objs.size + 1, s1.heap.objs.size] (s1.heap.objs.size + 1)
        (fun i h => (∃ old, IsEnum h (s1.heap.objs.size + 1) s1.heap.objs.size (0 + ((i : Nat) : Int)) old) ∧ ItIs b h s1.heap.objs.size a i) := by
      refine turn_g (wr := [s1.heap.objs.size + 1, s1.heap.objs.size]) (sp := [a]) (Src := fun h => ∃ us, Vals xs us ∧ SqIs b h a us.toArray) (by simp) (fun b hb => hb) (fun i _ => by show 2 ≤ sizeLine; decide) (fun i h st c hc => ?_) (fun i h h' st k => ?_)
        (fun Y e1 e2 e3 pins s σ H J hsrc => by rw [← e3] at hsrc; exact sq_src J hsrc) (fun A i s Q E st hQ => let ⟨_, he⟩ := st.1; wpAny_pyIter_enum he hQ) (fun A hh => ?_)
      · have e' : c = s1.heap.objs.size + 1 ∨ c = s1.heap.objs.size := by simpa using hc
        obtain ⟨⟨old, he⟩, hi⟩ := st
        rcases e' with z | z
        · rw [z]; exact ⟨_, he, fun v q => nomatch q⟩
        · rw [z]; exact itIs_obj hi
      · obtain ⟨⟨old, he⟩, hi⟩ := st
        exact ⟨⟨old, k _ (by simp) _ he⟩, itIs_keep hi fun o z => k _ (by simp) o z⟩
      · have G := GoesN.enumFrom (prog := X.prog) (w := X.w) (A := A) (elts := elts) (x1 := kk) (pos := tpos) 0 (draws_s (prog := X.prog) (w := X.w) (A := A.in1) hh b s1.heap.objs.size a (Nat.ne_of_lt la) xs) (s1.heap.objs.size + 1) hne (by simp; exact ena) (by simp)
        refine ⟨G.sub, fun i h h' st k => ?_, fun i s Q E hi st hQ => ?_, fun s Q E st hQ => ?_, fun i s Q E st hQ => G.self i s Q E ⟨st.1.1, st.1.2, st.2⟩ hQ⟩
        · have z := G.frame i h h' ⟨st.1.1, st.1.2, st.2⟩ k
          exact ⟨⟨z.1, z.2.1⟩, z.2.2⟩
        · refine G.goes i s Q E hi ⟨st.1.1, st.1.2, st.2⟩ fun v h' tk hY st' hk htk => hQ v h' tk ?_ ⟨⟨st'.1, st'.2.1⟩, st'.2.2⟩ hk htk
          obtain ⟨T, t, x, ev, hT, ⟨y, hy, ry⟩, hTup⟩ := hY
          refine ⟨T, [.int (0 + (i : Int)) t, x], ev, hT, ?_, hTup⟩
          unfold enIts
          rw [getD_of hy]
          exact .cons ⟨t, by rw [Int.zero_add]⟩ (.cons ry .nil)
        · exact G.stops s Q E ⟨st.1.1, st.1.2, st.2⟩ hQ
    refine ⟨s1.heap.objs.size + 1, [s1.heap.objs.size + 1, s1.heap.objs.size], _, _, H1, rfl, I2, tu, ⟨⟨.none, ?_⟩, itIs_new hit⟩, fun c hc => ?_, q⟩
    · show IsEnum _ _ _ (0 + ((0 : Nat) : Int)) _
      exact he
    · have e' : c = s1.heap.objs.size + 1 ∨ c = s1.heap.objs.size := by simpa using hc
      have hle : s1.heap.objs.size ≤ c := by
        rcases e' with z | z
        · rw [z]; exact Nat.le_add_right _ _
        · rw [z]; exact Nat.le_refl _
      exact I1.fpOk hle (I1.hok.fresh hle)
abbrev DI_ := Env' → (List D → Prop) → EK → Prop
def Wlk (t : Option Bx) (F : Hp) (J : It) (xs : List D) : Prop := ∀ S H, Le t F S.bx S.F → Good S H → ∀ i : Nat,
  (∀ d, xs[i]? = some d → J.go i H ∧ ∀ v H2, J.yld i H v H2 → ∃ S2, Stp S H S2 H2 ∧ Good S2 H2 ∧ Rp S2.bx S2.F v d) ∧ (i = xs.length → J.stop i H)
structure DI (X : Cx) (E : XK) (tg iter : Expr) (d : DI_) : Prop where
  run : ∃ wi, PI X tg iter wi ∧ ∀ Z S H σ env R Rd Ed, Good S H → Rel Z S H σ env → XLink X.mg S H Ed E → d env Rd Ed →
    (∀ J H' S' xs, Stp S H S' H' → Good S' H' → Wlk S'.bx S'.F J xs → Rd xs → R J H') → wi σ H R
section
variable {X : Cx} {E : XK} {tg a b : Expr} {da db : DT_}
def iSeq (K : PySem.W.Frag) (tl : TE) : TI := fun σ H R => tl σ H fun x H1 => ∃ p, x = .ref p ∧ (((∃ xs, SqL K H1 p xs) ∧ R (Itl K p) H1) ∨ ((∃ xs, SqT K H1 p xs) ∧ R (Itt K p) H1))
theorem pi_seq {l : Expr} {tl : TE} (hl : PE X l tl) : PI X tg l (iSeq X.K tl) := by
  refine ⟨fun pins s σ H R I h => thn (hl.run pins s σ H _ I h) fun v s1 ⟨x, H1, I1, r1, q1⟩ => ?_⟩
  obtain ⟨p, e, q⟩ := q1
  subst e
  cases r1
  have fpk : ∀ b ∈ [s1.heap.objs.size], FpOk X pins H1 b := fun b hb => by
    have e : b = s1.heap.objs.size := by simpa using hb
    rw [e]
    exact I1.fpOk (Nat.le_refl _) (I1.hok.fresh (Nat.le_refl _))
  rcases q with ⟨⟨xs, hq⟩, q⟩ | ⟨⟨xs, hq⟩, q⟩
  · obtain ⟨us, _, pl, _⟩ := I1.list hq
    refine wpAny_pyIter_list pl.isList ⟨_, [s1.heap.objs.size], _, _, H1, rfl, ?_, turn_list p _, ⟨_, Heap.get?_push_size _ rfl, rfl, rfl⟩, fpk, q⟩
    exact I1.kept (t' := s1.toks) fun b o e => Heap.get?_push_of_some _ e
  · obtain ⟨us, _, pt, _⟩ := I1.tuple hq
    refine wpAny_pyIter_tuple (show s1.heap.IsTuple p us.toArray from pt) ⟨_, [s1.heap.objs.size], _, _, H1, rfl, ?_, turn_tuple p _, ⟨_, Heap.get?_push_size _ rfl, rfl, rfl⟩, fpk, q⟩
    exact I1.kept (t' := s1.toks) fun b o e => Heap.get?_push_of_some _ e
theorem wlk_l {K : PySem.W.Frag} {t : Option Bx} {F : Hp} {p : Addr} {vs : List V} {xs : List D} (e : F p = some (.lst vs)) (r : RpL t F vs xs) : Wlk t F (Itl K p) xs := by
  intro S H le g i
  have hp := g.fz _ _ (le.f _ _ e)
  refine ⟨fun d hd => ?_, fun hi => ⟨vs, SqL.of hp, by rw [r.length]; omega⟩⟩
  obtain ⟨v, h1, h2⟩ := r.getD hd
  refine ⟨⟨vs, v, SqL.of hp, h1⟩, fun v' H2 hy => ?_⟩
  obtain ⟨rfl, hy⟩ := hy
  have := hy vs (SqL.of hp)
  rw [h1] at this; cases this
  exact ⟨S, .refl _ _, g, h2.le le⟩
theorem wlk_t {K : PySem.W.Frag} {t : Option Bx} {F : Hp} {p : Addr} {vs : List V} {xs : List D} (e : F p = some (.tup vs)) (r : RpL t F vs xs) : Wlk t F (Itt K p) xs := by
  intro S H le g i
  have hp := g.fz _ _ (le.f _ _ e)
  refine ⟨fun d hd => ?_, fun hi => ⟨vs, SqT.of hp, by rw [r.length]; omega⟩⟩
  obtain ⟨v, h1, h2⟩ := r.getD hd
  refine ⟨⟨vs, v, SqT.of hp, h1⟩, fun v' H2 hy => ?_⟩
  obtain ⟨rfl, hy⟩ := hy
  have := hy vs (SqT.of hp)
  rw [h1] at this; cases this
  exact ⟨S, .refl _ _, g, h2.le le⟩
def dSeqI (da : DT_) : DI_ := fun env R E => da env (fun x => match x with | .tp xs => R xs | .ls xs => R xs | _ => False) E
theorem di_seq (ha : DE X E a da) : DI X E tg a (dSeqI da) := by
  obtain ⟨t, p, q⟩ := ha.run
  refine ⟨_, pi_seq p, fun Z S H σ env R Rd Ed g r l h k => ?_⟩
  refine q Z S H σ env _ _ Ed g r l h fun v H1 S1 x s1 g1 r1 h1 => ?_
  split at h1
  · cases r1 with
    | tp e rr => exact ⟨_, rfl, .inr ⟨⟨_, SqT.of (g1.fz _ _ e)⟩, k _ H1 S1 _ s1 g1 (wlk_t e rr) h1⟩⟩
  · cases r1 with
    | ls e rr => exact ⟨_, rfl, .inl ⟨⟨_, SqL.of (g1.fz _ _ e)⟩, k _ H1 S1 _ s1 g1 (wlk_l e rr) h1⟩⟩
  · exact h1.elim
theorem rgL_get {lo : Int} {n i : Nat} {d : D} (h : ((List.range n).map fun j => D.it (lo + (j : Nat)))[i]? = some d) : i < n ∧ d = .it (lo + (i : Nat)) := by
  rw [List.getElem?_map] at h
  by_cases hi : i < n
  · rw [List.getElem?_range hi] at h
    exact ⟨hi, (Option.some.inj h).symm⟩
  · rw [List.getElem?_eq_none_iff.mpr (by simpa using hi)] at h; cases h
theorem wlk_r {t : Option Bx} {F : Hp} {lo : Int} {n : Nat} : Wlk t F (Itr lo n) ((List.range n).map fun j => D.it (lo + (j : Nat))) := by
  intro S H le g i
  refine ⟨fun d hd => ?_, fun hi => by rw [List.length_map, List.length_range] at hi; show n ≤ i; omega⟩
  obtain ⟨hi, rfl⟩ := rgL_get hd
  refine ⟨hi, fun v H2 hy => ?_⟩
  obtain ⟨rfl, rfl⟩ := hy
  exact ⟨S, .refl _ _, g, .it _⟩
def rgD (lo : Int) (n : Nat) : List D := (List.range n).map fun j => D.it (lo + (j : Nat))
abbrev in62 (i : Int) : Prop := -(2 ^ 62) ≤ i ∧ i < 2 ^ 62
def dRng1 (da : DA_) : DI_ := fun env R E => da env (fun xs => match xs with | [.it j] => in62 j ∧ R (rgD 0 j.toNat) | _ => False) E
def dRng2 (da : DA_) : DI_ := fun env R E => da env (fun xs => match xs with | [.it i, .it j] => in62 i ∧ in62 j ∧ R (rgD i (j - i).toNat) | _ => False) E
theorem di_range1 {u : DA_} {p pos : Pos} (hg : Gl X "range") (hm : X.mg "range" = none) (ha : DA X E [a] u) (hs : starEach [a] X.env = [(false, eval a X.env)] := by rfl) : DI X E tg (.Call (.Name "range" p) [a] [] pos) (dRng1 u) := by
  obtain ⟨t, p, q⟩ := ha.run
  refine ⟨_, pi_range1 hg hm p hs, fun Z S H σ env R Rd Ed g r l h k => ?_⟩
  refine q Z S H σ env _ _ Ed g r l h fun vs H1 S1 xs s1 g1 r1 h1 => ?_
  split at h1
  · cases r1 with
    | cons r1 r2 =>
      cases r2; cases r1
      exact ⟨_, rfl, h1.1.1, h1.1.2, k _ H1 S1 _ s1 g1 wlk_r h1.2⟩
  · exact h1.elim
def enD (xs : List D) : List D := (List.range xs.length).map fun i => D.tp [.it (i : Nat), xs.getD i .non]
theorem enD_get {xs : List D} {i : Nat} {d : D} (h : (enD xs)[i]? = some d) : ∃ x, xs[i]? = some x ∧ d = .tp [.it (i : Nat), x] := by
  unfold enD at h
  rw [List.getElem?_map] at h
  by_cases hi : i < xs.length
  · rw [List.getElem?_range hi] at h
    refine ⟨xs[i], List.getElem?_eq_getElem hi, ?_⟩
    have := (Option.some.inj h).symm
    rw [this]
    show D.tp [.it (i : Nat), xs.getD i .non] = _
    rw [List.getD_eq_getElem?_getD, List.getElem?_eq_getElem hi]; rfl
  · rw [List.getElem?_eq_none_iff.mpr (by simpa using hi)] at h; cases h
theorem wlk_e {t : Option Bx} {F : Hp} {src : Hp → Prop} {vs : List V} {xs : List D} (r : RpL t F vs xs) (hs : ∀ S H, Le t F S.bx S.F → Good S H → src H) : Wlk t F (Itg src vs.length (enIts vs)) (enD xs) := by
  intro S H le g i
  refine ⟨fun d hd => ?_, fun hi => ⟨by rw [hi, r.length]; unfold enD; rw [List.length_map, List.length_range], hs S H le g⟩⟩
  obtain ⟨x, hx, rfl⟩ := enD_get hd
  obtain ⟨v, h1, h2⟩ := r.getD hx
  refine ⟨⟨(List.getElem?_eq_some_iff.mp h1).1, hs S H le g⟩, fun v' H2 hy => ?_⟩
  obtain ⟨T, rfl, hT, rfl⟩ := hy
  obtain ⟨st, g2⟩ := step_new g (o := .tup (enIts vs i)) hT
  refine ⟨_, st, g2, .tp (by show upd S.F T _ T = _; exact upd_same) ?_⟩
  have q : RpL S.bx (upd S.F T (.tup (enIts vs i))) [V.int (i : Nat), v] [D.it (i : Nat), x] := .cons (.it _) (.cons ((h2.le le).le st.le) .nil)
  have e : enIts vs i = [V.int (i : Nat), v] := by unfold enIts; rw [getD_of h1]
  have q' : RpL S.bx (upd S.F T (.tup (enIts vs i))) (enIts vs i) [D.it (i : Nat), x] := Eq.mpr (congrArg (fun z => RpL S.bx (upd S.F T (.tup (enIts vs i))) z [D.it (i : Nat), x]) e) q
  exact q'
def dEnum (u : DA_) : DI_ := fun env R E => u env (fun ys => match ys with | [.tp xs] => R (enD xs) | [.ls xs] => R (enD xs) | _ => False) E
theorem di_enum {u : DA_} {p pos tpos : Pos} {elts : List Expr} {kk : Nat} (hg : Gl X "enumerate") (hm : X.mg "enumerate" = none) (ha : DA X E [a] u) (hs : starEach [a] X.env = [(false, eval a X.env)] := by rfl) :
    DI X E (.Tuple elts kk tpos) (.Call (.Name "enumerate" p) [a] [] pos) (dEnum u) := by
  obtain ⟨t, p, q⟩ := ha.run
  refine ⟨_, pi_enumB hg hm p hs, fun Z S H σ env R Rd Ed g r l h k => ?_⟩
  refine q Z S H σ env _ _ Ed g r l h fun vs H1 S1 xs s1 g1 r1 h1 => ?_
  split at h1
  · cases r1 with
    | cons r1 r2 =>
      cases r2
      cases r1 with
      | tp e rr => exact ⟨_, _, false, rfl, SqT.of (g1.fz _ _ e), k _ H1 S1 _ s1 g1 (wlk_e rr fun S H le g => SqT.of (g.fz _ _ (le.f _ _ e))) h1⟩
  · cases r1 with
    | cons r1 r2 =>
      cases r2
      cases r1 with
      | ls e rr => exact ⟨_, _, true, rfl, SqL.of (g1.fz _ _ e), k _ H1 S1 _ s1 g1 (wlk_e rr fun S H le g => SqL.of (g.fz _ _ (le.f _ _ e))) h1⟩
  · exact h1.elim
def zpD : List D → List D → List D
  | x :: xs, y :: ys => .tp [x, y] :: zpD xs ys
  | _, _ => []
def sqD : D → Option (Bool × List D) | .tp xs => some (false, xs) | .ls xs => some (true, xs) | _ => none
def dZip (u : DA_) : DI_ := fun env R E => u env (fun zs => match zs with | [x, y] => (match sqD x, sqD y with | some (_, xs), some (_, ys) => R (zpD xs ys) | _, _ => False) | _ => False) E
end
def forD (dg : DG_) (db : DS_) (De : DEnds) : List D → Env' → Prop
  | [] => De.nx
  | x :: xs => fun env => dg x env fun env1 => db { De with nx := forD dg db De xs, ct := forD dg db De xs, bk := De.nx } env1
def dFor (di : DI_) (dg : DG_) (db : DS_) : DS_ := fun D env => di env (fun xs => forD dg db D xs env) D.ex
theorem ds_for {X : Cx} {E : XK} {tg iter : Expr} {body : List Stmt} {pos : Pos} {di : DI_} {dg : DG_} {vs : List Nat} {db : DS_} (hp : PassesOwn (model X.prog X.w) X.A X.env X.xe) (hc : X.calm = true) (hi : DI X E tg iter di) (hg : DG X tg vs dg) (hb : DSs X E body db)
    (hs : ∀ x, foldedSetIterable iter X.env x = pure x := by intro _; rfl) : DS X E (.For tg iter body [] pos) (dFor di dg db) := by
  obtain ⟨wi, pi, qi⟩ := hi.run
  obtain ⟨g, pg, qg⟩ := hg.run
  obtain ⟨t, pb, qb⟩ := hb.run
  refine ⟨_, ps_for hp hc pi pg pb hs, fun B De Dn l S σ env H a r h => ?_⟩
  refine qi _ S H σ env _ _ _ a.g r (l.xl a) h fun J H1 S1 xs s1 g1 w1 h1 => ?_
  have a1 := a.step s1 g1
  refine ⟨fun i m σ H => m = xs.length - i ∧ i ≤ xs.length ∧ ∃ S env, At (B.now S1) S H ∧ Rel B.H0 S H σ env ∧ forD dg db De (xs.drop i) env, ⟨_, rfl, Nat.zero_le _, S1, env, a1.now, r.step s1, h1⟩, ?_⟩
  rintro i m σ H ⟨rfl, hle, S, env, a2, r2, h2⟩
  have w := w1 S H a2.f a2.g i
  by_cases hlt : i < xs.length
  · have ed : xs.drop i = xs[i] :: xs.drop (i + 1) := List.drop_eq_getElem_cons hlt
    rw [ed] at h2
    obtain ⟨go, yl⟩ := w.1 xs[i] (List.getElem?_eq_getElem hlt)
    obtain ⟨N, hN⟩ : ∃ N : L2.St → Hp → Prop, N = fun σ' H' => ∃ S env, At (B.now S1) S H' ∧ Rel B.H0 S H' σ' env ∧ forD dg db De (xs.drop (i + 1)) env := ⟨_, rfl⟩
    refine .inr ⟨go, N, fun σ' H' q => ⟨xs.length - (i + 1), by omega, rfl, hlt, by rw [hN] at q; exact q⟩, fun x H' hy => ?_⟩
    obtain ⟨S2, st, g2, rp⟩ := yl x H' hy
    refine qg _ S2 H' σ env x _ _ _ (r2.step st) g2 rp h2 fun σ2 env2 r3 h3 _ => ?_
    refine qb (B.now S1) { De with nx := forD dg db De (xs.drop (i + 1)), ct := forD dg db De (xs.drop (i + 1)), bk := De.nx } { Dn with nx := N, ct := N, bk := Dn.nx } ⟨fun S σ env H a r h => ?_, fun S σ env H a r h => l.nx S σ env H (a1.was a) r h, fun S σ env H a r h => ?_, fun S v d H a r h => l.rt S v d H (a1.was a) r h, l.ex, fun S σ env v d H a r rv h => l.ro S σ env v d H (a1.was a) r rv h⟩ S2 σ2 env2 H' (a2.step st g2) r3 h3
    · show N σ H
      rw [hN]; exact ⟨S, env, a, r, h⟩
    · show N σ H
      rw [hN]; exact ⟨S, env, a, r, h⟩
  · have e : i = xs.length := by omega
    subst e
    rw [List.drop_length] at h2
    exact .inl ⟨w.2 rfl, l.nx S σ env H (a1.was a2) r2 h2⟩
theorem xl0 {mg : Str → Option Value} {S : Sta} {H : Hp} : XLink mg S H (fun _ => False) E0 := fun _ _ _ _ _ _ _ _ h => h.elim
def NSem (mg : Str → Option Value) (E : XK) (t : TE) (d : DN_) : Prop := ∀ Z S H σ env Q (Qd : List D → Prop) Ed, Good S H → Rel Z S H σ env → XLink mg S H Ed E → d env Qd Ed →
    (∀ p H' S' vs xs, Stp S H S' H' → Good S' H' → H p = none → H' p = some (.lst vs) → S'.F p = none → ¬ InB S'.bx p → RpL S'.bx S'.F vs xs → Qd xs → Q (.ref p) H') → t σ H Q
def wipeD (env : Env') : List Nat → Env'
  | [] => env
  | v :: vs => (wipeD env vs).set v .no
theorem rel_wipe {Z : Hp} {S : Sta} {H : Hp} {σ : L2.St} {env : Env'} (r : Rel Z S H σ env) : ∀ vs : List Nat, Rel Z S H (wipe σ vs) (wipeD env vs)
  | [] => r
  | v :: vs => (rel_wipe r vs).drop_ v none
structure DTs (X : Cx) (E : XK) (ifs : List Expr) (d : DB_) : Prop where
  run : ∃ t, PTs X ifs t ∧ ∀ Z S H σ env Q Qd Ed, Good S H → Rel Z S H σ env → XLink X.mg S H Ed E → d env Qd Ed → ContB S H Qd Q → t σ H Q
def dYes : DB_ := fun _ Q _ => Q true
theorem dts_nil {X : Cx} {E : XK} : DTs X E [] dYes := ⟨_, pts_nil, fun _ S H _ _ _ _ _ g _ _ h k => k true H S (.refl S H) g h⟩
theorem dts_one {X : Cx} {E : XK} {c : Expr} {d : DB_} (h : DB X E c d) : DTs X E [c] d := let ⟨t, p, q⟩ := h.run; ⟨t, pts_one p, q⟩
def lcD (dg : DG_) (tt : DB_) (te : DT_) (env : Env') (E : EK) (Q : List D → Prop) : List D → List D → Prop
  | [], acc => Q acc
  | x :: xs, acc => dg x env fun env1 => tt env1 (fun b => match b with | true => te env1 (fun y => acc.length < sizeLine ∧ lcD dg tt te env E Q xs (acc ++ [y])) E | false => lcD dg tt te env E Q xs acc) E
def dLc (di : DI_) (dg : DG_) (tt : DB_) (te : DT_) (vs : List Nat) : DN_ := fun env Q E => di env (fun xs => lcD dg tt te (wipeD env vs) (fun _ => False) Q xs []) E
section
variable {X : Cx} {E : XK} {elt tg iter : Expr} {ifs : List Expr} {scope : Scope} {own : List (Str × Nat)} {pos : Pos} {vsg : List Nat} {di : DI_} {dg : DG_} {tt : DB_} {te : DT_}
abbrev BCx (X : Cx) (scope : Scope) (s : Shared) (H : Hp) (C : Addr) (cl : List (Str × Addr)) (fp : List Addr) : Cx := X.blk s H scope (compEnvC scope cl C X.env) fp
theorem allE (he : ∀ s H C cl fp, DE (BCx X scope s H C cl fp) E0 elt te) : ∃ t, (∀ s H C cl fp, PE (BCx X scope s H C cl fp) elt t) ∧
    ∀ Z S H σ env Q Qd Ed, Good S H → Rel Z S H σ env → XLink X.mg S H Ed E0 → te env Qd Ed → Cont S H Qd Q → t σ H Q := by
  have ch := fun s H C cl fp => (he s H C cl fp).run
  refine ⟨fun σ H Q => ∀ s H0 C cl fp, (ch s H0 C cl fp).choose σ H Q, fun s H0 C cl fp => ⟨fun pins s1 σ H Q I h => ?_⟩, fun Z S H σ env Q Qd Ed g r l h k s H0 C cl fp => ?_⟩
  · exact (ch s H0 C cl fp).choose_spec.1.run pins s1 σ H Q I (h s H0 C cl fp)
  · exact (ch s H0 C cl fp).choose_spec.2 Z S H σ env Q Qd Ed g r l h k
theorem allT (he : ∀ s H C cl fp, DTs (BCx X scope s H C cl fp) E0 ifs tt) : ∃ t, (∀ s H C cl fp, PTs (BCx X scope s H C cl fp) ifs t) ∧
    ∀ Z S H σ env Q Qd Ed, Good S H → Rel Z S H σ env → XLink X.mg S H Ed E0 → tt env Qd Ed → ContB S H Qd Q → t σ H Q := by
  have ch := fun s H C cl fp => (he s H C cl fp).run
  refine ⟨fun σ H Q => ∀ s H0 C cl fp, (ch s H0 C cl fp).choose σ H Q, fun s H0 C cl fp => ⟨fun pins s1 σ H Q I h => ?_⟩, fun Z S H σ env Q Qd Ed g r l h k s H0 C cl fp => ?_⟩
  · exact (ch s H0 C cl fp).choose_spec.1.run pins s1 σ H Q I (h s H0 C cl fp)
  · exact (ch s H0 C cl fp).choose_spec.2 Z S H σ env Q Qd Ed g r l h k
theorem allG (he : ∀ s H C cl fp, DG (BCx X scope s H C cl fp) tg vsg dg) : ∃ t, (∀ s H C cl fp, PG (BCx X scope s H C cl fp) tg t) ∧
    ∀ Z S H σ env x dx Q Qd, Rel Z S H σ env → Good S H → Rp S.bx S.F x dx → dg dx env Qd → (∀ σ2 env2, Rel Z S H σ2 env2 → Qd env2 → (∀ ws : List Nat, (∀ i ∈ vsg, i ∈ ws) → wipe σ2 ws = wipe σ ws) → Q σ2 H) → t x σ H Q := by
  have ch := fun s H C cl fp => (he s H C cl fp).run
  refine ⟨fun x σ H Q => ∀ s H0 C cl fp, (ch s H0 C cl fp).choose x σ H Q, fun s H0 C cl fp => ⟨fun pins s1 σ H v u Q I rv h => ?_⟩, fun Z S H σ env x dx Q Qd r g rp h k s H0 C cl fp => ?_⟩
  · exact (ch s H0 C cl fp).choose_spec.1.run pins s1 σ H v u Q I rv (h s H0 C cl fp)
  · exact (ch s H0 C cl fp).choose_spec.2 Z S H σ env x dx Q Qd r g rp h k
theorem wipe_idem : ∀ (σ : L2.St) (vs : List Nat), wipe (wipe σ vs) vs = wipe σ vs := by
  intro σ vs
  have key : ∀ (ws us : List Nat) (τ : L2.St), (∀ v ∈ us, v ∈ ws) → wipe (wipe τ us) ws = wipe τ ws := by
    intro ws us
    induction us with
    | nil => intro τ _; rfl
    | cons u r ih =>
      intro τ h
      show wipe ((wipe τ r).set u none) ws = _
      rw [wipe_set (h u List.mem_cons_self)]
      exact ih τ fun v hv => h v (List.mem_cons_of_mem _ hv)
  exact key vs vs σ fun v h => h
theorem lc_at {wi : TI} {g : TG} {t1 : TT} {t2 : TE} {vs : List Nat} (hv : ∀ i ∈ vsg, i ∈ vs) {Z : Hp} {S : Sta} {H : Hp} {σ : L2.St} {env : Env'} {Q : VK} {Qd : List D → Prop} (gd : Good S H) (r : Rel Z S H σ env)
    (si : ∀ R : It → Hp → Prop, (∀ J H' S' xs, Stp S H S' H' → Good S' H' → Wlk S'.bx S'.F J xs → lcD dg tt te (wipeD env vs) (fun _ => False) Qd xs [] → R J H') → wi σ H R)
    (sg : ∀ Z S H σ env x dx Q Qd, Rel Z S H σ env → Good S H → Rp S.bx S.F x dx → dg dx env Qd → (∀ σ2 env2, Rel Z S H σ2 env2 → Qd env2 → (∀ ws : List Nat, (∀ i ∈ vsg, i ∈ ws) → wipe σ2 ws = wipe σ ws) → Q σ2 H) → g x σ H Q)
    (s1 : ∀ Z S H σ env Q Qd Ed, Good S H → Rel Z S H σ env → XLink X.mg S H Ed E0 → tt env Qd Ed → ContB S H Qd Q → t1 σ H Q)
    (s2 : ∀ Z S H σ env Q Qd Ed, Good S H → Rel Z S H σ env → XLink X.mg S H Ed E0 → te env Qd Ed → Cont S H Qd Q → t2 σ H Q)
    (k : ∀ p H' S' vs xs, Stp S H S' H' → Good S' H' → H p = none → H' p = some (.lst vs) → S'.F p = none → ¬ InB S'.bx p → RpL S'.bx S'.F vs xs → Qd xs → Q (.ref p) H') : tLc wi g t1 t2 vs σ H Q := by
  refine si _ fun J H1 S1 xs st1 g1 w1 h1 => ?_
  intro p hp
  obtain ⟨q1, q2⟩ := step_own g1 (o := HO.lst []) hp
  have nb1 : ¬ InB S1.bx p := fun z => by obtain ⟨o, e⟩ := g1.box z; rw [hp] at e; cases e
  have nf1 : S1.F p = none := none_of_keep fun o e => by have := g1.fz _ _ e; rw [hp] at this; cases this
  have ap : ∀ {S' : Sta} {H' : Hp} {o : HO}, Good S' H' → Stp S1 H1 S' H' → (∀ f, H' p ≠ some (.ext f)) → S'.F p = none → ¬ InB S'.bx p → Good S' (upd H' p o) ∧ Stp S1 H1 S' (upd H' p o) := fun {S' H' o} g st hx hf hb =>
    ⟨good_mut g hx hf hb, st.ext, st.new, st.box, fun b u e hb' => by rw [upd_ne (ne_of_none e hp)]; exact st.keep b u e hb'⟩
  refine ⟨fun i m H => m = xs.length - i ∧ i ≤ xs.length ∧ ∃ S' vs' acc, Good S' H ∧ Stp S1 H1 S' H ∧ H p = some (.lst vs') ∧ S'.F p = none ∧ ¬ InB S'.bx p ∧ RpL S'.bx S'.F vs' acc ∧ lcD dg tt te (wipeD env vs) (fun _ => False) Qd (xs.drop i) acc,
    ⟨_, rfl, Nat.zero_le _, S1, [], [], q2, q1, upd_same, nf1, nb1, .nil, h1⟩, ?_⟩
  rintro i m H2 ⟨rfl, hle, S2, vs2, acc, g2, st2, hp2, nf2, nb2, r2, h2⟩
  have w := w1 S2 H2 st2.le g2 i
  by_cases hlt : i < xs.length
  · have ed : xs.drop i = xs[i] :: xs.drop (i + 1) := List.drop_eq_getElem_cons hlt
    rw [ed] at h2
    obtain ⟨go, yl⟩ := w.1 xs[i] (List.getElem?_eq_getElem hlt)
    obtain ⟨Nx, hN⟩ : ∃ Nx : Hp → Prop, Nx = fun H => ∃ S' vs' acc, Good S' H ∧ Stp S1 H1 S' H ∧ H p = some (.lst vs') ∧ S'.F p = none ∧ ¬ InB S'.bx p ∧ RpL S'.bx S'.F vs' acc ∧ lcD dg tt te (wipeD env vs) (fun _ => False) Qd (xs.drop (i + 1)) acc := ⟨_, rfl⟩
    refine .inr ⟨go, Nx, fun H' q => ⟨xs.length - (i + 1), by omega, rfl, hlt, by rw [hN] at q; exact q⟩, fun x H3 hy => ?_⟩
    obtain ⟨S3, st3, g3, rp⟩ := yl x H3 hy
    have through : ∀ {S4 : Sta} {H4 : Hp}, Stp S2 H2 S4 H4 → Good S4 H4 → H4 p = some (.lst vs2) ∧ S4.F p = none ∧ ¬ InB S4.bx p := fun {S4 H4} st g => by
      refine ⟨st.keep _ _ hp2 nb2, none_of_keep fun o e => ?_, fun z => ?_⟩
      · rcases st.new _ _ e with z | z
        · rw [nf2] at z; cases z
        · rw [hp2] at z; cases z
      · rcases st.inB z with z | z
        · exact nb2 z
        · rw [hp2] at z; cases z
    have rw0 : Rel Z S3 H3 (wipe σ vs) (wipeD env vs) := rel_wipe ((r.step (st1.trans g1 st2)).step st3) vs
    refine sg Z S3 H3 _ _ x _ _ _ rw0 g3 rp h2 fun σ2 env2 r4 h4 hw => ⟨(hw vs hv).trans (wipe_idem σ vs), ?_⟩
    refine s1 Z S3 H3 σ2 env2 _ _ _ g3 r4 xl0 h4 fun b H5 S5 st5 g5 h5 => ?_
    cases b with
    | false =>
      rw [if_neg Bool.false_ne_true, hN]
      have st25 := st3.trans g3 st5
      obtain ⟨e1, e2, e3⟩ := through st25 g5
      exact ⟨S5, vs2, acc, g5, st2.trans g2 st25, e1, e2, e3, r2.le st25.le, h5⟩
    | true =>
      rw [if_pos rfl]
      refine s2 Z S5 H5 σ2 env2 _ _ _ g5 (r4.step st5) xl0 h5 fun y H6 S6 dy st6 g6 ry h6 => ?_
      have st26 := (st3.trans g3 st5).trans g5 st6
      obtain ⟨e1, e2, e3⟩ := through st26 g6
      refine ⟨vs2, e1, by rw [r2.length]; exact h6.1, ?_⟩
      rw [hN]
      obtain ⟨g7, st7⟩ := ap (o := .lst (vs2 ++ [y])) g6 (st2.trans g2 st26) (nx_lst e1) e2 e3
      exact ⟨S6, vs2 ++ [y], acc ++ [dy], g7, st7, upd_same, e2, e3, (r2.le st26.le).app (.one ry), h6.2⟩
  · have e : i = xs.length := by omega
    subst e
    rw [List.drop_length] at h2
    refine .inl ⟨w.2 rfl, k p H2 S2 vs2 acc (st1.trans g1 st2) g2 (st1.free g1 hp) hp2 nf2 nb2 r2 h2⟩
theorem lc_sem {wi : TI} {g : TG} {t1 : TT} {t2 : TE} {vs : List Nat} (hv : ∀ i ∈ vsg, i ∈ vs)
    (si : ∀ Z S H σ env R Rd Ed, Good S H → Rel Z S H σ env → XLink X.mg S H Ed E → di env Rd Ed → (∀ J H' S' xs, Stp S H S' H' → Good S' H' → Wlk S'.bx S'.F J xs → Rd xs → R J H') → wi σ H R)
    (sg : ∀ Z S H σ env x dx Q Qd, Rel Z S H σ env → Good S H → Rp S.bx S.F x dx → dg dx env Qd → (∀ σ2 env2, Rel Z S H σ2 env2 → Qd env2 → (∀ ws : List Nat, (∀ i ∈ vsg, i ∈ ws) → wipe σ2 ws = wipe σ ws) → Q σ2 H) → g x σ H Q)
    (s1 : ∀ Z S H σ env Q Qd Ed, Good S H → Rel Z S H σ env → XLink X.mg S H Ed E0 → tt env Qd Ed → ContB S H Qd Q → t1 σ H Q)
    (s2 : ∀ Z S H σ env Q Qd Ed, Good S H → Rel Z S H σ env → XLink X.mg S H Ed E0 → te env Qd Ed → Cont S H Qd Q → t2 σ H Q) : NSem X.mg E (tLc wi g t1 t2 vs) (dLc di dg tt te vs) :=
  fun Z S H σ env Q Qd Ed gd r l h k => lc_at (X := X) hv gd r (fun R hR => si Z S H σ env R _ Ed gd r l h hR) sg s1 s2 k
theorem dn_lc (hc : X.calm = true) (hN : X.N.Nodup) (hi : DI X E tg iter di) (ok : BlkOk X.N X.env.scope scope own) (hv : ∀ i ∈ vsg, i ∈ own.map (·.2)) (hg : ∀ s H C cl fp, DG (BCx X scope s H C cl fp) tg vsg dg)
    (ht : ∀ s H C cl fp, DTs (BCx X scope s H C cl fp) E0 ifs tt) (he : ∀ s H C cl fp, DE (BCx X scope s H C cl fp) E0 elt te) (hs : ∀ x, foldedSetIterable iter X.env x = pure x := by intro _; rfl) :
    DN X E (.ListComp elt [⟨tg, iter, ifs, 0⟩] scope pos) (dLc di dg tt te (own.map (·.2))) := by
  obtain ⟨wi, pi, si⟩ := hi.run
  obtain ⟨g, pg, sg⟩ := allG hg
  obtain ⟨t1, p1, s1⟩ := allT ht
  obtain ⟨t2, p2, s2⟩ := allE he
  exact ⟨_, pe_lc hc hN pi ok pg p1 p2 hs, lc_sem hv si sg s1 s2⟩
def dSetN (i : Nat) (d : DN_) : DS_ := fun De env => d env (fun xs => De.nx (env.set i (.v (.ls xs)))) De.ex
def dSetO (i : Nat) (d : DN_) : DS_ := fun De env => d env (fun xs => De.nx (env.set i (.own xs))) De.ex
theorem set_frz {t : TE} {d : DN_} (s : NSem X.mg E t d) (i : Nat) {B : Base} {De : DEnds} {Dn : Ends} (l : Lnk X.mg E B De Dn) {S : Sta} {σ : L2.St} {env : Env'} {H : Hp} (a : At B S H) (r : Rel B.H0 S H σ env) (h : dSetN i d De env) :
    tAsg t (gName i) Dn σ H := by
  refine s _ S H σ env _ _ _ a.g r (l.xl a) h fun p H' S' vs xs s' g' h0 h1 h2 h3 r' h' => ?_
  have le : Le S'.bx S'.F S'.bx (upd S'.F p (.lst vs)) := ⟨fun b o e => by
    have : b ≠ p := fun z => by rw [z, h2] at e; cases e
    rw [upd_ne this]; exact e, fun x e => e⟩
  have st : Stp S H ⟨S'.bx, upd S'.F p (.lst vs)⟩ H' := ⟨fun b o e => le.f b o (s'.ext b o e), fun b o e => by
    by_cases z : b = p
    · rw [z]; exact .inr h0
    · have e' : upd S'.F p (.lst vs) b = some o := e
      rw [upd_ne z] at e'
      exact s'.new b o e', s'.box, s'.keep⟩
  have g2 := good_frz g' h1 h3
  exact l.nx _ _ _ H' (a.step st g2) ((r.step st).put (.ls (by show upd S'.F p (.lst vs) p = _; exact upd_same) (r'.le le))) h'
theorem set_own {t : TE} {d : DN_} (s : NSem X.mg E t d) (i : Nat) {B : Base} {De : DEnds} {Dn : Ends} (l : Lnk X.mg E B De Dn) {S : Sta} {σ : L2.St} {env : Env'} {H : Hp} (a : At B S H) (r : Rel B.H0 S H σ env) (h : dSetO i d De env) :
    tAsg t (gName i) Dn σ H := by
  refine s _ S H σ env _ _ _ a.g r (l.xl a) h fun p H' S' vs xs s' g' h0 h1 h2 h3 r' h' => ?_
  refine l.nx _ _ _ H' (a.step s' g') ((r.step s').putOwn (a.p.free a.g h0) h1 h2 h3 (fun j ys ej ez => ?_) r') h'
  obtain ⟨b, ws, q1, q2, _⟩ := r.at_ j _ ej
  rw [ez] at q1; cases q1
  rw [h0] at q2; cases q2
theorem DN.sem {e : Expr} {d : DN_} (h : DN X E e d) : ∃ t, PE X e t ∧ NSem X.mg E t d := h.run
theorem ds_setO (i : Nat) {x : Str} {p' : Pos} {e : Expr} {d : DN_} (he : DN X E e d) (hN : X.N.Nodup) (hi : X.N[i]? = some x := by rfl) (hx : Loc X.env.scope x := by first | exact Or.inl rfl | exact Or.inr rfl) (hs : swapsWith e (some (.Name x p')) pos.line X.env = pure false := by rfl)
    (hf : X.fn x = true ∨ X.env.scope.names.lookup x = some .local := by first | exact .inl rfl | exact .inr rfl | assumption) : DS X E (.Assign [.Name x p'] e pos) (dSetO i d) := by
  obtain ⟨t, p, q⟩ := he.sem
  exact ⟨_, ps_set hN hi hx p hs hf, fun B De Dn l S σ env H a r h => set_own q i l a r h⟩
theorem ds_setLcN (i : Nat) {y : Str} {py spos : Pos} (hc : X.calm = true) (hN : X.N.Nodup) (hi : DI X E tg iter di) (ok : BlkOk X.N X.env.scope scope own) (hv : ∀ i ∈ vsg, i ∈ own.map (·.2)) (hg : ∀ s H C cl fp, DG (BCx X scope s H C cl fp) tg vsg dg)
    (ht : ∀ s H C cl fp, DTs (BCx X scope s H C cl fp) E0 ifs tt) (he : ∀ s H C cl fp, DE (BCx X scope s H C cl fp) E0 elt te)
    (hsw : swapsWith (.ListComp elt [⟨tg, iter, ifs, 0⟩] scope pos) (some (.Name y py)) spos.line X.env = pure true) (hy : X.N[i]? = some y := by rfl) (hyl : X.env.scope.names.lookup y = some .local := by rfl) (hs : ∀ x, foldedSetIterable iter X.env x = pure x := by intro _; rfl) :
    DS X E (.Assign [.Name y py] (.ListComp elt [⟨tg, iter, ifs, 0⟩] scope pos) spos) (dSetN i (dLc di dg tt te (own.map (·.2)))) := by
  obtain ⟨wi, pi, si⟩ := hi.run
  obtain ⟨g, pg, sg⟩ := allG hg
  obtain ⟨t1, p1, s1⟩ := allT ht
  obtain ⟨t2, p2, s2⟩ := allE he
  exact ⟨_, ps_setLc hc hN hy hyl hsw pi ok pg p1 p2 hs, fun B De Dn l S σ env H a r h => set_frz (lc_sem hv si sg s1 s2) i l a r h⟩
theorem ds_setLcO (i : Nat) {y : Str} {py spos : Pos} (hc : X.calm = true) (hN : X.N.Nodup) (hi : DI X E tg iter di) (ok : BlkOk X.N X.env.scope scope own) (hv : ∀ i ∈ vsg, i ∈ own.map (·.2)) (hg : ∀ s H C cl fp, DG (BCx X scope s H C cl fp) tg vsg dg)
    (ht : ∀ s H C cl fp, DTs (BCx X scope s H C cl fp) E0 ifs tt) (he : ∀ s H C cl fp, DE (BCx X scope s H C cl fp) E0 elt te)
    (hsw : swapsWith (.ListComp elt [⟨tg, iter, ifs, 0⟩] scope pos) (some (.Name y py)) spos.line X.env = pure true) (hy : X.N[i]? = some y := by rfl) (hyl : X.env.scope.names.lookup y = some .local := by rfl) (hs : ∀ x, foldedSetIterable iter X.env x = pure x := by intro _; rfl) :
    DS X E (.Assign [.Name y py] (.ListComp elt [⟨tg, iter, ifs, 0⟩] scope pos) spos) (dSetO i (dLc di dg tt te (own.map (·.2)))) := by
  obtain ⟨wi, pi, si⟩ := hi.run
  obtain ⟨g, pg, sg⟩ := allG hg
  obtain ⟨t1, p1, s1⟩ := allT ht
  obtain ⟨t2, p2, s2⟩ := allE he
  exact ⟨_, ps_setLc hc hN hy hyl hsw pi ok pg p1 p2 hs, fun B De Dn l S σ env H a r h => set_own (lc_sem hv si sg s1 s2) i l a r h⟩
def dLstN (u : DA_) : DN_ := fun env Q E => u env (fun xs => szOk xs.length ∧ Q xs) E
theorem own_new {S S1 : Sta} {H H1 : Hp} (s1 : Stp S H S1 H1) (g1 : Good S1 H1) {p : Addr} {vs : List V} (hp : H1 p = none) :
    Stp S H S1 (upd H1 p (.lst vs)) ∧ Good S1 (upd H1 p (.lst vs)) ∧ H p = none ∧ S1.F p = none ∧ ¬ InB S1.bx p := by
  obtain ⟨a, b⟩ := step_own g1 (o := HO.lst vs) hp
  refine ⟨s1.trans g1 a, b, s1.free g1 hp, none_of_keep fun o e => (by have := g1.fz _ _ e; rw [hp] at this; cases this), fun z => (by obtain ⟨o, e⟩ := g1.box z; rw [hp] at e; cases e)⟩
theorem dn_lst {es : List Expr} {u : DA_} (h : DA X E es u) : DN X E (.List es pos) (dLstN u) := by
  obtain ⟨t, p, q⟩ := h.run
  refine ⟨_, pe_lst p, fun Z S H σ env Q Qd Ed g r l h k => ?_⟩
  refine q Z S H σ env _ _ Ed g r l h fun vs H1 S1 xs s1 g1 r1 h1 => ⟨by rw [r1.length]; exact h1.1, fun p hp => ?_⟩
  obtain ⟨a1, a2, a3, a4, a5⟩ := own_new (vs := vs) s1 g1 hp
  exact k p _ S1 vs xs a1 a2 a3 upd_same a4 a5 r1 h1.2
def dCatN (da db : DT_) : DN_ := fun env Q E => da env (fun x => db env (fun y => match x, y with | .ls xs, .ls ys => szOk (xs.length + ys.length) ∧ Q (xs ++ ys) | _, _ => False) E) E
theorem dn_cat {a b : Expr} {da db : DT_} (ha : DE X E a da) (hb : DE X E b db) : DN X E (.BinOp a .Add b pos) (dCatN da db) := by
  obtain ⟨ta, pa, ra⟩ := ha.run
  obtain ⟨tb, pb, rb⟩ := hb.run
  refine ⟨_, pe_op op_cat pa pb, fun Z S H σ env Q Qd Ed g r l h k => ?_⟩
  refine ra Z S H σ env _ _ Ed g r l h fun x H1 S1 dx s1 g1 r1 h1 => ?_
  refine rb Z S1 H1 σ env _ _ Ed g1 (r.step s1) (l.step s1 g1) h1 fun y H2 S2 dy s2 g2 r2 h2 => ?_
  have r1 := r1.le s2.le
  split at h2
  · cases r1 with
    | ls e1 q1 =>
      cases r2 with
      | ls e2 q2 =>
        refine ⟨_, _, _, _, rfl, rfl, g2.fz _ _ e1, g2.fz _ _ e2, by rw [q1.length, q2.length]; exact h2.1, fun p hp => ?_⟩
        obtain ⟨a1, a2, a3, a4, a5⟩ := own_new (s1.trans g1 s2) g2 hp
        exact k p _ S2 _ _ a1 a2 a3 upd_same a4 a5 (q1.app q2) h2.2
  · exact h2.elim
def dRepN (da db : DT_) : DN_ := fun env Q E => da env (fun x => db env (fun y => match x, y with | .ls xs, .it n => -(2 ^ 63) ≤ n ∧ n < 2 ^ 63 ∧ szOk (xs.length * n.toNat) ∧ Q (List.replicate n.toNat xs).flatten | _, _ => False) E) E
def dListN (u : DA_) : DN_ := fun env Q E => u env (fun xs => match xs with | [.tp ys] => Q ys | [.ls ys] => Q ys | _ => False) E
def dApp (i : Nat) (de : DT_) : DS_ := fun De env => match env[i]? with | some (.own xs) => de env (fun y => xs.length < sizeLine ∧ De.nx (env.set i (.own (xs ++ [y])))) De.ex | _ => False
theorem ds_append (i : Nat) {x : Str} {e : Expr} {de : DT_} {p1 p2 p3 : Pos} (he : DE X E e de) (hN : X.N[i]? = some x := by rfl) (hv : Vis X.env.scope x := by first | exact Or.inl rfl | exact Or.inr (Or.inl rfl) | exact Or.inr (Or.inr rfl)) (hd : (x == ("__debug__" : Str)) = false := by decide)
    (hcd : (x == ("__classdict__" : Str)) = false := by decide) (hb : attributeBase (.Name x p1) "append" X.env (eval (.Name x p1) X.env) = eval (.Name x p1) X.env := by rfl)
    (hs : starEach [e] X.env = (false, eval e X.env) :: starEach [] X.env := by rfl) (hsw : swapsWith (.Call (.Attribute (.Name x p1) "append" p2) [e] [] p3) none pos.line X.env = pure false := by rfl)
    (hfew : (((backTo p3 (starEach [e] X.env)).all (!·.1) && (backToKw p3 (keywordEach [] X.env)).all (·.1.isSome)) && decide (([e] : List Expr).length + ([] : List Keyword).length + (if ([] : List Keyword).isEmpty then 0 else 1) < 30)) = true := by rfl)
    (hline : (p2.endLine == p3.line) = true := by rfl) :
    DS X E (.Expr (.Call (.Attribute (.Name x p1) "append" p2) [e] [] p3) pos) (dApp i de) := by
  obtain ⟨t, p, q⟩ := he.run
  refine ⟨_, ps_expr (pe_bm PySem.F.plainAttrs_list PySem.F.slot_list_append PySem.F.type_list_append mt_append (pe_var hN hv hd hcd) (pa_cons p pa_nil hs) hb hfew hline hs rfl) hsw, fun B De Dn l S σ env H a r h => ?_⟩
  unfold dApp at h
  split at h
  · next xs ei =>
    obtain ⟨b, vs, e1, e2, e3, e4, e5, e6⟩ := r.at_ i _ ei
    refine ⟨_, e1, .inl ⟨rfl, _, SqL.of e2⟩, ?_⟩
    refine q _ S H σ env _ _ _ a.g r (l.xl a) h fun v H1 S1 y s1 g1 r1 h1 => ?_
    have r' := r.step s1
    obtain ⟨b', vs', q1, q2, q3, q4, q5, q6⟩ := r'.at_ i _ ei
    rw [e1] at q1; cases q1
    refine ⟨b, vs', v, rfl, rfl, q2, by rw [q6.length]; exact h1.1, ?_⟩
    have a1 := a.step s1 g1
    refine l.nx S1 σ _ _ ⟨good_mut g1 (nx_lst q2) q3 q4, ⟨a1.p.ext, a1.p.new, a1.p.box, fun c o ec hc => ?_⟩, a1.f⟩ (r'.mut ei e1 (q6.app (.one r1))) h1.2
    rw [upd_ne (ne_of_none ec q5)]; exact a1.p.keep c o ec hc
  · exact h.elim
end
abbrev SpD := List D → DK → EK → Prop
structure GFn (P : Program) (w : World) (K : PySem.W.Frag) (mg : Str → Option Value) (base : Heap) (k : Nat) (f : Addr) (fd : FuncData) (ps : List Str) (sp : SpD) : Prop where
  len : ∀ ds Q E, sp ds Q E → ds.length = ps.length
  run : ∀ (A : Around) (outer : List Env) (s : Shared) (H : Hp) (args : Args) (us : List Value) (vs : List V) (Q : VK) (E : XK) (S : Sta) (ds : List D) (Qd : DK) (Ed : EK), Room k A → A.guards = some [] → Env0 P w K mg base A outer s H → BindsTo s fd args (ps.zip us) → Vals vs us →
    Good S H → RpL S.bx S.F vs ds → sp ds Qd Ed → Cont S H Qd Q → XLink mg S H Ed E → codeAny (model P w) A (.call (.ref f) args) (CR (L2.CX P w) outer P w H s Q E) s
theorem GFn.mono {P : Program} {w : World} {K : PySem.W.Frag} {mg : Str → Option Value} {base : Heap} {j k : Nat} {f : Addr} {fd : FuncData} {ps : List Str} {sp : SpD} (F : GFn P w K mg base j f fd ps sp) (h : j ≤ k) :
    GFn P w K mg base k f fd ps sp := ⟨F.len, fun A outer s H args us vs Q E S ds Qd Ed hr => F.run A outer s H args us vs Q E S ds Qd Ed (hr.mono h)⟩
theorem GFn.imp {P : Program} {w : World} {K : PySem.W.Frag} {mg : Str → Option Value} {base : Heap} {k : Nat} {f : Addr} {fd : FuncData} {ps : List Str} {sp sp' : SpD} (F : GFn P w K mg base k f fd ps sp)
    (h : ∀ ds Q E, sp' ds Q E → sp ds Q E) : GFn P w K mg base k f fd ps sp' :=
  ⟨fun ds Q E q => F.len ds Q E (h _ _ _ q), fun A outer s H args us vs Q E S ds Qd Ed hr hg e0 hb hv g rp hs => F.run A outer s H args us vs Q E S ds Qd Ed hr hg e0 hb hv g rp (h _ _ _ hs)⟩
def dstart (n : Nat) (ds : List D) : Env' := ds.map Sl.v ++ List.replicate (n - ds.length) Sl.no
theorem dstart_no {n : Nat} {ds : List D} {i : Nat} {w : Bool} {a C : Addr} {fs : List (Str × Fd)} (e1 : (dstart n ds)[i]? = some (.ob w a C fs)) : False := by
  unfold dstart at e1
  by_cases hi : i < ds.length
  · rw [List.getElem?_append_left (by simpa using hi), List.getElem?_map] at e1
    cases e2 : ds[i]? with
    | none => rw [e2] at e1; cases e1
    | some d => rw [e2] at e1; cases e1
  · rw [List.getElem?_append_right (by simpa using hi), List.getElem?_replicate] at e1
    split at e1 <;> cases e1
theorem rel_start {S : Sta} {H : Hp} {N : List Str} {vs : List V} {ds : List D} (r : RpL S.bx S.F vs ds) : Rel H S H (L2.start N vs) (dstart N.length ds) where
  len := by
    unfold L2.start dstart
    rw [List.length_append, List.length_append, List.length_map, List.length_map, List.length_replicate, List.length_replicate, r.length]
  at_ := fun i s e => by
    unfold dstart at e
    by_cases hi : i < ds.length
    · rw [List.getElem?_append_left (by simpa using hi), List.getElem?_map] at e
      cases e1 : ds[i]? with
      | none => rw [e1] at e; cases e
      | some d =>
        rw [e1] at e
        cases e
        obtain ⟨v, h1, h2⟩ := r.getD e1
        refine ⟨v, ?_, h2⟩
        unfold L2.start
        rw [List.getElem?_append_left (by rw [List.length_map, r.length]; exact hi), List.getElem?_map, h1]; rfl
    · rw [List.getElem?_append_right (by simpa using hi), List.getElem?_replicate] at e
      split at e
      · cases e; trivial
      · cases e
  sep := fun i j xs ys a _ e1 _ _ => by
    exfalso
    unfold dstart at e1
    by_cases hi : i < ds.length
    · rw [List.getElem?_append_left (by simpa using hi), List.getElem?_map] at e1
      cases e2 : ds[i]? with
      | none => rw [e2] at e1; cases e1
      | some d => rw [e2] at e1; cases e1
    · rw [List.getElem?_append_right (by simpa using hi), List.getElem?_replicate] at e1
      split at e1 <;> cases e1
  sepO := fun i j w a C fs w' a' C' fs' _ e1 _ => (dstart_no e1).elim
abbrev cxD (P : Program) (w : World) (K : PySem.W.Frag) (mg : Str → Option Value) (base : Heap) (N : List Str) (qual : Str) (scope : Scope) (f : Addr) (cd : Value) (A : Around) (outer : List Env) (s : Shared) (H : Hp) (E : XK) : Cx :=
  cxOf (L2.CX P w) P w K mg base N qual scope f cd A outer s H E
section
variable {P : Program} {w : World} {K : PySem.W.Frag} {mg : Str → Option Value} {base : Heap}
structure HFn (P : Program) (w : World) (K : PySem.W.Frag) (mg : Str → Option Value) (base : Heap) (k : Nat) (f : Addr) (fd : FuncData) (ps : List Str) (sp : Sp) : Prop where
  len : ∀ vs H Q E, sp vs H Q E → vs.length = ps.length
  run : ∀ (A : Around) (outer : List Env) (s : Shared) (H : Hp) (args : Args) (us : List Value) (vs : List V) (Q : VK) (E : XK), Room k A → A.guards = some [] → Env0 P w K mg base A outer s H → BindsTo s fd args (ps.zip us) → Vals vs us →
    sp vs H Q E → codeAny (model P w) A (.call (.ref f) args) (CR (L2.CX P w) outer P w H s Q E) s
theorem hfn_mk {x qual : Str} {st : Stmt} {f : Addr} {fd : FuncData} {N ps : List Str} {k : Nat} {sp : Sp} (F : Fun K x qual st f fd) (S : FnScope N ps (defScope st)) (len : ∀ vs H Q E, sp vs H Q E → vs.length = ps.length)
    (hbody : ∀ (cdv : Value) (A : Around) (outer : List Env) (s : Shared) (H : Hp) (vs : List V) (Q : VK) (E : XK), Room k (A.deeper (envOfC qual (defScope st) s.heap.objs.size f cdv)) → A.guards = some [] → sp vs H Q E →
      ∃ t, PSs (cxD P w K mg base N qual (defScope st) f cdv A outer s H E) (defBody st) t ∧ t { nx := fun _ H' => Q .non H', rt := Q } (start N vs) H) : HFn P w K mg base (k + 1) f fd ps sp := by
  obtain ⟨oc, od, kV, doc, pm, an, cdv, ct, osl, rfl, lk, hcd⟩ := F.ex
  refine ⟨len, fun A outer s H args us vs Q E hr hgd e0 hb r hsp => ?_⟩
  have hl : vs.length = ps.length := len _ _ _ _ hsp
  have KX : K.In s.heap := e0.mod.kin.keeps fun b o e => (e0.bs b o e).1
  have lim : s.heap.NoLimit := e0.mod.nolimit.keeps fun b o e => (e0.bs b o e).1
  have hkind : ∀ y ∈ ps.zip us, (defScope st).names.lookup y.1 = some .local ∨ ((defScope st).names.lookup y.1 = some .cell ∧ ((cellsFrom (s.heap.objs.size + 1) (defScope st).names []).lookup y.1).isSome = true) := fun ⟨n, v⟩ hy => by
    rcases S.par n (List.of_mem_zip hy).1 with q | q
    · exact .inl q
    · exact .inr ⟨q, PySem.W.cellsFrom_some _ _ _ (.inl q)⟩
  refine codeAny_call_function hr.depth (KX _ _ lk) rfl S.co S.gen rfl (PySem.W.codeRec_of KX hcd) (hb _ _ _ _ ?_)
  refine wpAny_newFunctionEnv_cells S.kind hkind fun env he s1 x => ?_
  subst he
  refine ⟨lim.keeps x.toInCall.keep, codeAny_func ?_⟩
  obtain ⟨t, ht, hrun⟩ := hbody cdv A outer s H vs Q E (hr.deeper _) hgd hsp
  have I : Inv (cxD P w K mg base N qual (defScope st) f cdv A outer s H E) [] (start N vs) H s1 := inv_start S hr.hd e0 hl r x
  refine wpAny_mono (ht.run [] s1 (start N vs) H _ I hrun) (fun fl s' hs => ?_) fun e s' hs => hs
  have fin : ∀ {σ' : L2.St} {H' : Hp} {v : V} {u : Value}, Inv (cxD P w K mg base N qual (defScope st) f cdv A outer s H E) [] σ' H' s' → RelV v u → Q v H' → CE outer P w H s Q u s' :=
    fun {σ' H' v u} J rv q => ⟨v, H', J.os, J.bare, J.base, J.hok, rv, q⟩
  cases fl with
  | ret u =>
    obtain ⟨v, σ', H', J, rv, q⟩ := hs
    exact fin J rv q
  | next =>
    obtain ⟨σ', H', J, q⟩ := hs
    exact fin (v := V.non) (u := Value.none) J rfl q
  | brk =>
    obtain ⟨_, _, _, q⟩ := hs
    exact False.elim q
  | cont =>
    obtain ⟨_, _, _, q⟩ := hs
    exact False.elim q
def liftSp (mg : Str → Option Value) (sp : SpD) : Sp := fun vs H Q E => ∃ (S : Sta) (ds : List D) (Qd : DK) (Ed : EK), Good S H ∧ RpL S.bx S.F vs ds ∧ sp ds Qd Ed ∧ Cont S H Qd Q ∧ XLink mg S H Ed E
theorem GFn.of {k : Nat} {f : Addr} {fd : FuncData} {ps : List Str} {sp : SpD} (h : HFn P w K mg base k f fd ps (liftSp mg sp)) (len : ∀ ds Q E, sp ds Q E → ds.length = ps.length) : GFn P w K mg base k f fd ps sp :=
  ⟨len, fun A outer s H args us vs Q E S ds Qd Ed hr hg e0 hb rv g rp hs k0 l0 => h.run A outer s H args us vs Q E hr hg e0 hb rv ⟨S, ds, Qd, Ed, g, rp, hs, k0, l0⟩⟩
theorem gfn_mk {x qual : Str} {st : Stmt} {f : Addr} {fd : FuncData} {N ps : List Str} {k : Nat} {sp : SpD} {d : DS_} (F : Fun K x qual st f fd) (S : FnScope N ps (defScope st)) (len : ∀ ds Q E, sp ds Q E → ds.length = ps.length)
    (hbody : ∀ (cdv : Value) (A : Around) (outer : List Env) (s : Shared) (H : Hp) (E : XK), Room k (A.deeper (envOfC qual (defScope st) s.heap.objs.size f cdv)) → A.guards = some [] →
      DSs (cxD P w K mg base N qual (defScope st) f cdv A outer s H E) E (defBody st) d)
    (law : ∀ ds Q E, sp ds Q E → d { nx := fun _ => Q .non, rt := Q, ex := E } (dstart N.length ds)) : GFn P w K mg base (k + 1) f fd ps sp := by
  refine GFn.of (hfn_mk F S (fun vs H Q E h => ?_) fun cdv A outer s H vs Q E hr hgd hsp => ?_) len
  · obtain ⟨S0, ds, Qd, Ed, g, rp, hsp, _⟩ := h
    rw [rp.length]; exact len _ _ _ hsp
  · obtain ⟨S0, ds, Qd, Ed, g, rp, hsp, k0, l0⟩ := hsp
    obtain ⟨t, ht, hq⟩ := (hbody cdv A outer s H E hr hgd).run
    refine ⟨t, ht, ?_⟩
    refine hq ⟨S0, H, S0.F, S0.bx⟩ { nx := fun _ => Qd .non, rt := Qd, ex := Ed } _ ⟨fun S σ env H1 a _ h => ?_, fun _ _ _ _ _ _ h => h.elim, fun _ _ _ _ _ _ h => h.elim, fun S v dv H1 a rv h => ?_, l0, fun _ _ _ _ _ _ _ _ _ h => h.elim⟩ S0 (start N vs) (dstart N.length ds) H ⟨g, .refl _ _, .refl _ _⟩ (rel_start rp) (law ds Qd Ed hsp)
    · exact k0 .non H1 S .non a.p a.g .non h
    · exact k0 v H1 S dv a.p a.g rv h
structure Cal (P : Program) (w : World) (K : PySem.W.Frag) (mg : Str → Option Value) (base : Heap) (k : Nat) (x : Str) (ps : List Str) (sp : SpD) : Prop where
  ex : ∃ f fd, GFn P w K mg base k f fd ps sp ∧ mg x = some (.ref f) ∧ PySem.W.keepIn K (.ref f) = true ∧ Binds K fd ps []
theorem Cal.mono {j k : Nat} {x : Str} {ps : List Str} {sp : SpD} (c : Cal P w K mg base j x ps sp) (h : j ≤ k) : Cal P w K mg base k x ps sp :=
  let ⟨f, fd, a, b⟩ := c.ex; ⟨f, fd, a.mono h, b⟩
theorem Cal.imp {k : Nat} {x : Str} {ps : List Str} {sp sp' : SpD} (c : Cal P w K mg base k x ps sp) (h : ∀ ds Q E, sp' ds Q E → sp ds Q E) : Cal P w K mg base k x ps sp' :=
  let ⟨f, fd, a, b⟩ := c.ex; ⟨f, fd, a.imp h, b⟩
end
def dCall (sp : SpD) (u : DA_) : DT_ := fun env Q E => u env (fun xs => sp xs Q E) E
section
variable {X : Cx} {E : XK} {k : Nat} {x : Str} {ps : List Str} {sp : SpD} {p pos : Pos} {e : Expr} {es : List Expr} {u : DA_}
theorem run_g {f : Addr} {fd : FuncData} {pins : List (Addr × Obj)} {σ : L2.St} {H : Hp} {s : Shared} {Q : VK} {us : List Value} {vs : List V} {S : Sta} {ds : List D} {Qd : DK} {Ed : EK} (F : GFn X.prog X.w X.K X.mg X.base k f fd ps sp) (hr : Room k X.A) (hgd : X.A.guards = some []) (hb : Binds X.K fd ps []) (hx : Passes (L2.CX X.prog X.w) X E)
    (I : Inv X pins σ H s) (r : Vals vs us) (g : Good S H) (rp : RpL S.bx S.F vs ds) (h : sp ds Qd Ed) (k0 : Cont S H Qd Q) (l : XLink X.mg S H Ed E) : wpAny (model X.prog X.w) X.A (call (.ref f) us) (EP X pins σ Q) X.xe s := by
  have hl : us.length = ps.length := by rw [← r.length, rp.length]; exact F.len _ _ _ h
  have b := hb s us I.kIn (by rw [List.append_nil]; exact hl)
  rw [List.append_nil] at b
  refine wpAny_call (codeAny_mono (F.run X.A X.stack s H ⟨us, []⟩ us vs Q E S ds Qd Ed hr hgd I.env0 b r g rp h k0 l) fun r s' hq => ?_)
  cases r with
  | error e => exact hx pins σ H s e s' I hq
  | ok fl =>
    cases fl with
    | ret u => exact I.after hq
    | next => exact False.elim hq
    | brk => exact False.elim hq
    | cont => exact False.elim hq
def tG (mg : Str → Option Value) (sp : SpD) (E : XK) (t : TA) : TE := fun σ H Q => t σ H fun vs H1 => ∃ S ds Qd Ed, Good S H1 ∧ RpL S.bx S.F vs ds ∧ sp ds Qd Ed ∧ Cont S H1 Qd Q ∧ XLink mg S H1 Ed E
theorem de_call (c : Cal X.prog X.w X.K X.mg X.base k x ps sp) (hr : Room k X.A) (hgd : X.A.guards = some []) (hx : Passes (L2.CX X.prog X.w) X E) (hg : Gl X x) (ha : DA X E (e :: es) u)
    (hdb : (x == ("__debug__" : Str)) = false := by decide) (he : starEach (e :: es) X.env = (false, eval e X.env) :: starEach es X.env := by rfl) (hpl : (backTo pos (starEach es X.env)).any (·.1) = false := by rfl) :
    DE X E (.Call (.Name x p) (e :: es) [] pos) (dCall sp u) := by
  obtain ⟨f, fd, F, hm, hk, hb⟩ := c.ex
  obtain ⟨t, pa, q⟩ := ha.run
  refine ⟨tG X.mg sp E t, ⟨fun pins s σ H Q I h => ?_⟩, fun Z S H σ env Q Qd Ed g r l h k0 => ?_⟩
  · refine wpAny_Call_Name_kw (ld_glob I hg hm ?_ hdb)
    refine PySem.W.callWith_K (h₀ := X.base) I.ok.mod.kin hk (thn (pa.run pos pins s σ H _ I h) fun us s1 ⟨vs, H1, I1, r, S, ds, Qd, Ed, g, rp, h, k0, l⟩ => ⟨I1.kIn, ?_⟩) he hpl
    exact run_g F hr hgd hb hx I1 r g rp h k0 l
  · exact q Z S H σ env _ _ Ed g r l h fun vs H1 S1 xs s1 g1 r1 h1 => ⟨S1, xs, Qd, Ed, g1, r1, h1, k0.step s1 g1, l.step s1 g1⟩
end
theorem passD {P : Program} {w : World} {K : PySem.W.Frag} {mg : Str → Option Value} {base : Heap} {N : List Str} {qual : Str} {scope : Scope} {f : Addr} {cd : Value} {A : Around} {outer : List Env} {s : Shared} {H : Hp} {E : XK} :
    Passes (L2.CX P w) (cxD P w K mg base N qual scope f cd A outer s H E) E :=
  passes_call (X := cxD P w K mg base N qual scope f cd A outer s H E) (takes_of rfl rfl rfl rfl) fun _ _ _ _ h => h
def keyPy : Key → PyData
  | .inl i => .int i
  | .inr s => .str s
mutual
def D.py : D → PyData
  | .non => .none
  | .bl b => .bool b
  | .it i => .int i
  | .st s => .str s
  | .tp xs => .tuple (pyL xs)
  | .ls xs => .list (pyL xs)
  | .dc kvs => .dict (pyK kvs)
  | .bx _ _ => .none
  | .vo _ _ => .none
def pyL : List D → List PyData
  | [] => []
  | x :: r => x.py :: pyL r
def pyK : List (Key × D) → List (PyData × PyData)
  | [] => []
  | (k, v) :: r => (keyPy k, v.py) :: pyK r
end
def okStr (s : Str) : Prop := ∀ c ∈ s.cps.toList, c < 16 ^ 8
def okInt (i : Int) : Prop := -(2 ^ 256) < i ∧ i < 2 ^ 256
def okKey : Key → Prop
  | .inl i => okInt i
  | .inr s => okStr s
mutual
def okD : D → Prop
  | .non => True
  | .bl _ => True
  | .it i => okInt i
  | .st s => okStr s
  | .tp xs => okL xs
  | .ls xs => okL xs
  | .dc kvs => okK kvs
  | .bx _ _ => False
  | .vo _ _ => False
def okL : List D → Prop
  | [] => True
  | x :: r => okD x ∧ okL r
def okK : List (Key × D) → Prop
  | [] => True
  | (k, v) :: r => okKey k ∧ okD v ∧ okK r
end
def massKey : Key → Nat
  | .inl _ => 1
  | .inr s => 1 + s.length
mutual
def mass : D → Nat
  | .non => 1
  | .bl _ => 1
  | .it _ => 1
  | .st s => 1 + s.length
  | .tp xs => 1 + massL xs
  | .ls xs => 1 + massL xs
  | .dc kvs => 1 + massK kvs
  | .bx _ _ => 1
  | .vo _ _ => 1
def massL : List D → Nat
  | [] => 0
  | x :: r => mass x + massL r
def massK : List (Key × D) → Nat
  | [] => 0
  | (k, v) :: r => massKey k + mass v + massK r
end
mutual
def deep : D → Nat
  | .tp xs => deepL xs + 1
  | .ls xs => deepL xs + 1
  | .dc kvs => deepK kvs + 1
  | .non => 0
  | .bl _ => 0
  | .it _ => 0
  | .st _ => 0
  | .bx _ _ => 0
  | .vo _ _ => 0
def deepL : List D → Nat
  | [] => 0
  | x :: r => max (deep x) (deepL r)
def deepK : List (Key × D) → Nat
  | [] => 0
  | (_, v) :: r => max (deep v) (deepK r)
end
mutual
theorem deep_py : ∀ d : D, d.py.depth = deep d
  | .non => by simp only [D.py, PyData.depth, deep]
  | .bl _ => by simp only [D.py, PyData.depth, deep]
  | .it _ => by simp only [D.py, PyData.depth, deep]
  | .st _ => by simp only [D.py, PyData.depth, deep]
  | .tp xs => by simp only [D.py, PyData.depth, deep, deepL_py xs]
  | .ls xs => by simp only [D.py, PyData.depth, deep, deepL_py xs]
  | .dc kvs => by simp only [D.py, PyData.depth, deep, deepK_py kvs]
  | .bx _ _ => by simp only [D.py, PyData.depth, deep]
  | .vo _ _ => by simp only [D.py, PyData.depth, deep]
theorem deepL_py : ∀ d : List D, PyData.depthAll (pyL d) = deepL d
  | [] => by simp only [pyL, PyData.depthAll, deepL]
  | x :: r => by simp only [pyL, PyData.depthAll, deepL, deep_py x, deepL_py r]
theorem deepK_py : ∀ d : List (Key × D), PyData.depthKv (pyK d) = deepK d
  | [] => by simp only [pyK, PyData.depthKv, deepK]
  | (k, v) :: r => by
    have : (keyPy k).depth = 0 := by cases k <;> simp only [keyPy, PyData.depth]
    simp only [pyK, PyData.depthKv, deepK, deep_py v, deepK_py r, this, Nat.zero_max]
end
theorem log_of {i : Int} (h : okInt i) : i.natAbs.log2 < 256 := by
  by_cases z : i.natAbs = 0
  · rw [z]; decide
  · rw [Nat.log2_lt z]
    have := h.1
    have := h.2
    omega
theorem log19 {i : Int} (h : okInt i) : i.natAbs.log2 < 1920 := Nat.lt_trans (log_of h) (by decide)
theorem len_int {i : Int} (h : okInt i) : (PyData.shown (.int i)).length ≤ 257 := by
  simp only [PyData.shown]
  rw [PySem.ofString_length]
  exact int_text_length_le (k := 256) (by decide) (log_of h)
theorem show_key {k : Key} (h : okKey k) : (keyPy k).showable = true ∧ (keyPy k).shown.length + 4 ≤ 300 * massKey k := by
  cases k with
  | inl i =>
    refine ⟨by simp only [keyPy, PyData.showable, decide_eq_true_eq]; exact log19 h, ?_⟩
    have := len_int (i := i) h
    show (PyData.shown (.int i)).length + 4 ≤ 300 * 1
    omega
  | inr s =>
    refine ⟨by simp only [keyPy, PyData.showable], ?_⟩
    have := PySem.StrLaws.reprText_len s h
    show (PyData.shown (.str s)).length + 4 ≤ 300 * (1 + s.length)
    simp only [PyData.shown]
    omega
mutual
theorem show_ok : ∀ d : D, okD d → d.py.showable = true ∧ d.py.shown.length + 2 ≤ 300 * mass d
  | .non, _ => ⟨by simp only [D.py, PyData.showable], by show 4 + 2 ≤ 300 * 1; decide⟩
  | .bl b, _ => ⟨by simp only [D.py, PyData.showable], by cases b <;> decide⟩
  | .it i, h => ⟨by simp only [D.py, PyData.showable, decide_eq_true_eq]; exact log19 (by simpa only [okD] using h), by
      have := len_int (i := i) (by simpa only [okD] using h)
      show (PyData.shown (.int i)).length + 2 ≤ 300 * 1
      omega⟩
  | .st s, h => ⟨by simp only [D.py, PyData.showable], by
      have := PySem.StrLaws.reprText_len s (by simp only [okD] at h; exact h)
      show (PyData.shown (.str s)).length + 2 ≤ 300 * (1 + s.length)
      simp only [PyData.shown]
      omega⟩
  | .tp xs, h => by
    obtain ⟨a, b⟩ := show_okL xs (by simpa only [okD] using h)
    refine ⟨by simp only [D.py, PyData.showable]; exact a, ?_⟩
    have h2 := tupleText_len_le (PyData.shownAll (pyL xs))
    simp only [D.py, PyData.shown, mass]
    omega
  | .ls xs, h => by
    obtain ⟨a, b⟩ := show_okL xs (by simpa only [okD] using h)
    refine ⟨by simp only [D.py, PyData.showable]; exact a, ?_⟩
    have h2 := listText_len_le (PyData.shownAll (pyL xs))
    simp only [D.py, PyData.shown, mass]
    omega
  | .dc kvs, h => by
    obtain ⟨a, b⟩ := show_okK kvs (by simpa only [okD] using h)
    refine ⟨by simp only [D.py, PyData.showable]; exact a, ?_⟩
    have h2 := dictText_len_le (PyData.shownKv (pyK kvs))
    simp only [D.py, PyData.shown, mass]
    omega
  | .bx _ _, h => by simp only [okD] at h
  | .vo _ _, h => by simp only [okD] at h
theorem show_okL : ∀ xs : List D, okL xs → PyData.showableAll (pyL xs) = true ∧ ((PyData.shownAll (pyL xs)).map (·.length)).sum + 2 * (PyData.shownAll (pyL xs)).length ≤ 300 * massL xs
  | [], _ => ⟨by simp only [pyL, PyData.showableAll], by simp only [pyL, PyData.shownAll, List.map_nil, List.sum_nil, List.length_nil, massL]; decide⟩
  | x :: r, h => by
    simp only [okL] at h
    obtain ⟨a, b⟩ := show_ok x h.1
    obtain ⟨c, d⟩ := show_okL r h.2
    refine ⟨by simp only [pyL, PyData.showableAll, a, c, Bool.and_self], ?_⟩
    simp only [pyL, PyData.shownAll, List.map_cons, List.sum_cons, List.length_cons, massL]
    omega
theorem show_okK : ∀ xs : List (Key × D), okK xs → PyData.showableKv (pyK xs) = true ∧ ((PyData.shownKv (pyK xs)).map (·.length)).sum + 2 * (PyData.shownKv (pyK xs)).length ≤ 300 * massK xs
  | [], _ => ⟨by simp only [pyK, PyData.showableKv], by simp only [pyK, PyData.shownKv, List.map_nil, List.sum_nil, List.length_nil, massK]; decide⟩
  | (k, v) :: r, h => by
    simp only [okK] at h
    obtain ⟨a0, b0⟩ := show_key h.1
    obtain ⟨a, b⟩ := show_ok v h.2.1
    obtain ⟨c, d⟩ := show_okK r h.2.2
    refine ⟨by simp only [pyK, PyData.showableKv, a0, a, c, Bool.and_self], ?_⟩
    have e2 : ((keyPy k).shown ++ ": " ++ v.py.shown).length = (keyPy k).shown.length + 2 + v.py.shown.length := by
      rw [strLen_append, strLen_append]; rfl
    simp only [pyK, PyData.shownKv, List.map_cons, List.sum_cons, List.length_cons, massK]
    omega
end
structure Fit (d : D) : Prop where
  ok : okD d
  m : mass d ≤ 50000
  h : deep d ≤ 150
theorem Fit.size {d : D} (f : Fit d) : d.py.shown.length ≤ sizeLine := by
  have := (show_ok d f.ok).2
  have := f.m
  rw [sizeLine_eq]
  omega
theorem RpK.keys {t : Option Bx} {F : Hp} : ∀ {vs : List (Key × V)} {ds : List (Key × D)}, RpK t F vs ds → vs.map (·.1) = ds.map (·.1)
  | _, _, .nil => rfl
  | _, _, .cons _ s => by rw [List.map_cons, List.map_cons, s.keys]
theorem keys_reads {P : Program} {w : World} {h : Heap} : ∀ {kvs : List (Key × V)} {ds : List (Key × D)} {vs : List (Key × Value)} {es : List DictEntry}, KV kvs vs → Pairs (mixKind P w) es vs → (kvs.map (·.1)) = ds.map (·.1) → ReadsAll h (es.map (·.key)) ((pyK ds).map (·.1)) []
  | [], [], _, _, .nil, .nil, _ => .nil
  | [], _ :: _, _, _, _, _, e => by simp at e
  | _ :: _, [], _, _, _, _, e => by simp at e
  | (k, v) :: r, (k', d) :: ds, _, _, .cons e1 t, .cons (e := en) q1 q2 q3, e => by
    simp only [List.map_cons, List.cons.injEq] at e
    obtain ⟨rfl, e⟩ := e
    have h1 := keys_reads (h := h) (ds := ds) t q3 e
    have q1' : keyIs k en.key = true := by
      have := e1.1
      have e2 : k = _ := e1.1
      rw [e2]; exact q1
    simp only [pyK, List.map_cons]
    rcases keyIs_shape q1' with ⟨i, t, rfl, ek⟩ | ⟨x, t, rfl, ek⟩
    · exact ReadsAll.cons (as := []) (by rw [ek]; exact Reads.int i t) h1
    · exact ReadsAll.cons (as := []) (by rw [ek]; exact Reads.str x t) h1
mutual
/-- data that stand in the heap read as data; sysModules is none of them -/
theorem Rp.reads {P : Program} {w : World} {S : Sta} {H : Hp} {h : Heap} (ok : HOk P w H h) (g : Good S H) (hm : H sysModules = none) : ∀ (d : D) (v : V) (u : Value), okD d → Rp S.bx S.F v d → RelV v u → ∃ as, Reads h u d.py as ∧ sysModules ∉ as
  | .non, _, _, _, r, e => by cases r; cases e; exact ⟨_, by simp only [D.py]; exact Reads.none, by simp⟩
  | .bl b, _, _, _, r, e => by cases r; cases e; exact ⟨_, by simp only [D.py]; exact Reads.bool b, by simp⟩
  | .it i, _, _, _, r, e => by cases r; obtain ⟨t, rfl⟩ := e; exact ⟨_, by simp only [D.py]; exact Reads.int i t, by simp⟩
  | .st s, _, _, _, r, e => by cases r; obtain ⟨t, rfl⟩ := e; exact ⟨_, by simp only [D.py]; exact Reads.str s t, by simp⟩
  | .tp xs, _, _, k, r, e => by
    cases r with
    | @tp a vs _ e1 rr =>
      cases e
      have q := g.fz _ _ e1
      obtain ⟨_, its, rv, o, ho, hc, n, hd⟩ : ObjOk P w H h a (.tup vs) := ok _ _ q
      obtain ⟨as, h1, h2⟩ := Rp.readsL ok g hm xs vs its (by simpa only [okD] using k) rr rv
      exact ⟨_, by simp only [D.py]; exact Reads.tuple ho hc hd h1, h2⟩
  | .ls xs, _, _, k, r, e => by
    cases r with
    | @ls a vs _ e1 rr =>
      cases e
      have q := g.fz _ _ e1
      obtain ⟨_, its, n, rv, ho⟩ : ObjOk P w H h a (.lst vs) := ok _ _ q
      obtain ⟨as, h1, h2⟩ := Rp.readsL ok g hm xs vs its (by simpa only [okD] using k) rr rv
      refine ⟨_, by simp only [D.py]; exact Reads.list ho rfl rfl (by simpa using h1), ?_⟩
      intro z
      rcases List.mem_cons.mp z with z | z
      · rw [z, q] at hm; cases hm
      · exact h2 z
  | .dc kvs, _, _, k, r, e => by
    cases r with
    | @dc a vs _ e1 rr =>
      cases e
      have q := g.fz _ _ e1
      obtain ⟨_, _, us, rv, o, es, ep, ho, hx, hd, _, hp, _⟩ : ObjOk P w H h a (.dK vs) := ok _ _ q
      obtain ⟨as, h1, h2⟩ := Rp.readsK ok g hm kvs vs us es.toList (by simpa only [okD] using k) rr rv hp
      have h3 := keys_reads (h := h) (ds := kvs) rv hp rr.keys
      refine ⟨_, by simp only [D.py]; exact Reads.dict ho hx.1 hd h3 h1, ?_⟩
      intro z
      rcases List.mem_cons.mp (by simpa using z) with z | z
      · rw [z, q] at hm; cases hm
      · exact h2 z
  | .bx _ _, _, _, k, _, _ => by simp only [okD] at k
  | .vo _ _, _, _, k, _, _ => by simp only [okD] at k
theorem Rp.readsL {P : Program} {w : World} {S : Sta} {H : Hp} {h : Heap} (ok : HOk P w H h) (g : Good S H) (hm : H sysModules = none) : ∀ (d : List D) (v : List V) (u : List Value), okL d → RpL S.bx S.F v d → Vals v u → ∃ as, ReadsAll h u (pyL d) as ∧ sysModules ∉ as
  | [], _, _, _, r, e => by cases r; cases e; exact ⟨_, by simp only [pyL]; exact .nil, by simp⟩
  | x :: xs, _, _, k, r, e => by
    simp only [okL] at k
    cases r with
    | cons r1 r2 =>
      cases e with
      | cons e1 e2 =>
        obtain ⟨as, h1, h2⟩ := Rp.reads ok g hm x _ _ k.1 r1 e1
        obtain ⟨bs, h3, h4⟩ := Rp.readsL ok g hm xs _ _ k.2 r2 e2
        refine ⟨_, by simp only [pyL]; exact .cons h1 h3, ?_⟩
        intro z
        rcases List.mem_append.mp z with z | z
        · exact h2 z
        · exact h4 z
theorem Rp.readsK {P : Program} {w : World} {S : Sta} {H : Hp} {h : Heap} (ok : HOk P w H h) (g : Good S H) (hm : H sysModules = none) : ∀ (d : List (Key × D)) (v : List (Key × V)) (u : List (Key × Value)) (es : List DictEntry), okK d → RpK S.bx S.F v d → KV v u → Pairs (mixKind P w) es u →
    ∃ as, ReadsAll h (es.map (·.val)) ((pyK d).map (·.2)) as ∧ sysModules ∉ as
  | [], _, _, _, _, r, e, p => by cases r; cases e; cases p; exact ⟨_, by simp only [pyK, List.map_nil]; exact .nil, by simp⟩
  | (k0, x) :: xs, _, _, _, k, r, e, p => by
    simp only [okK] at k
    cases r with
    | cons r1 r2 =>
      cases e with
      | cons e1 e2 =>
        cases p with
        | cons p1 p2 p3 =>
          obtain ⟨as, h1, h2⟩ := Rp.reads ok g hm x _ _ k.2.1 r1 e1.2
          obtain ⟨bs, h3, h4⟩ := Rp.readsK ok g hm xs _ _ _ k.2.2 r2 e2 p3
          refine ⟨_, by simp only [pyK, List.map_cons]; exact .cons (by rw [p2]; exact h1) h3, ?_⟩
          intro z
          rcases List.mem_append.mp z with z | z
          · exact h2 z
          · exact h4 z
end
end Dl
namespace PySem.SeqAt
open MeetsSeq AutoSeq1
theorem dict_declines_int (l : Addr) (es : Array DictEntry) (n : Nat) (dd : Option Addr) (sl : Array (Option Value)) (b : Int) (u : Tok) :
    Meets (Builtin.«dict.__eq__» ⟨[.ref l, .int b u], []⟩) (fun _ R s => s.heap.get? l = some { cls := .type "dict", dict := dd, data := .dict es n, slots := sl } ∧ R (.ok (.ret .notImplemented)) s) :=
  .of_wp fun prog w A R s h => by obtain ⟨hp, g, d, tk, os⟩ := s; obtain ⟨hl, h⟩ := h; have f1 := F.sub_int_dict; wp_walk using wpAny_loadPart' hl, wpAny_load hl; exact ⟨_, rfl, h⟩
theorem int_declines_dict (b : Int) (u : Tok) (l : Addr) (es : Array DictEntry) (n : Nat) (dd : Option Addr) (sl : Array (Option Value)) :
    Meets (Builtin.«int.__eq__» ⟨[.int b u, .ref l], []⟩) (fun _ R s => s.heap.get? l = some { cls := .type "dict", dict := dd, data := .dict es n, slots := sl } ∧ R (.ok (.ret .notImplemented)) s) :=
  .of_wp fun prog w A R s h => by obtain ⟨hp, g, d, tk, os⟩ := s; obtain ⟨hl, h⟩ := h; wp_walk using wpAny_loadPart' hl, wpAny_load hl; exact ⟨_, rfl, h⟩
theorem rcAt_dict_int {A : Around} {s : Shared} {l : Addr} {o : Obj} {es : Array DictEntry} {n : Nat} (b : Int) (u : Tok) (ho : s.heap.get? l = some o) (hc : o.cls = .type "dict") (hd : o.data = .dict es n) (hu : A.units < cLine) : RcAt A s (.ref l) (.int b u) false := fun prog w E Q h => by
  obtain ⟨cls, dd, data, sl⟩ := o
  simp only at hc hd
  subst hc hd
  exact rc_eq_decline_or (k := false) ⟨_, ho, rfl⟩ (typeIs_int s b u) (by decide) F.sub_int_dict F.slot_dict_eq F.slot_int_eq_refl
    (fun _ hq => call_meets F.slot_dict_eq ⟨_, ho, rfl⟩ F.entry_dict_eq (F.args_dict_eq_2 _ _) (dict_declines_int l es n dd sl b u) ⟨ho, hq⟩)
    (fun _ hq => call_meets F.slot_int_eq_refl (typeIs_int s b u) F.entry_int_eq (F.args_int_eq_2 _ _) (int_declines_dict b u l es n dd sl) ⟨ho, hq⟩)
    (fun _ hq => wpAny_of_eq (rfl : isSame (.ref l) (.int b u) = pure false) hq) (.inr hu) h
end PySem.SeqAt
namespace Dl
open PySem PySem.Spec PyProof.Rows L2
def rReprD : List V → Hp → VK → Prop := fun xs H Q => ∃ x S d, xs = [x] ∧ Good S H ∧ Rp S.bx S.F x d ∧ Fit d ∧ Q (.str d.py.shown) H
theorem sys_none {X : Cx} {pins : List (Addr × Obj)} {σ : L2.St} {H : Hp} {s : Shared} (I : Inv X pins σ H s) (hs : ∃ o, X.base.get? sysModules = some o) : H sysModules = none :=
  let ⟨o, e⟩ := hs; (I.bs _ o e).2
theorem call_reprD {X : Cx} {k : Nat} (hr : Room k X.A) (hgd : X.A.guards = some []) (hs : ∃ o, X.base.get? sysModules = some o) : CallR X (.builtin "repr") rReprD := by
  intro pins s σ H xs us Q I r h
  obtain ⟨x, S, d, rfl, g, rp, f, q⟩ := h
  obtain ⟨u, rfl, ru⟩ := vals1 r
  obtain ⟨as, h1, h2⟩ := Rp.reads I.hok g (sys_none I hs) d x u f.ok rp ru
  have hz := f.size
  have hsh := (show_ok d f.ok).1
  have kk : ∀ h' tk, (∀ b o, s.heap.get? b = some o → h'.get? b = some o) → ∀ u, EP X pins σ Q (.str d.py.shown u) { s with heap := h', toks := tk } := fun h' tk k u => ⟨.str _, H, I.kept k, ⟨_, rfl⟩, q⟩
  have tk : ∀ t u, EP X pins σ Q (.str d.py.shown u) { s with toks := t } := fun t u => ⟨.str _, H, I.tok t, ⟨_, rfl⟩, q⟩
  have big : ∀ a, Reads s.heap (.ref a) d.py as → wpAny (model X.prog X.w) X.A (call (.builtin "repr") [.ref a]) (EP X pins σ Q) X.xe s := fun a h1 =>
    PySem.repr_of_reads' h1 hsh (fun _ => h2) hgd (by have := hr.un; have := f.h; rw [deep_py]; omega) (fun _ _ e => e) (fun h' u t k => kk h' t k u) hz
  cases d with
  | non => cases rp; cases ru; exact PySem.P.repr_of_none (tk _ _)
  | bl b => cases rp; cases ru; exact PySem.P.repr_of_bool (by have := tk (s.toks + 1) s.toks; simpa only [D.py, PyData.shown] using this)
  | it i => cases rp; obtain ⟨t, rfl⟩ := ru; exact PySem.P.repr_of_int (log19 (by have := f.ok; simpa only [okD] using this)) (by have := tk (s.toks + 1) s.toks; simpa only [D.py, PyData.shown] using this)
  | st z => cases rp; obtain ⟨t, rfl⟩ := ru; exact PySem.P.repr_of_str (by have := tk (s.toks + 1) s.toks; simpa only [D.py, PyData.shown] using this) (by simpa only [D.py, PyData.shown] using hz)
  | tp ys => cases rp; cases ru; exact big _ h1
  | ls ys => cases rp; cases ru; exact big _ h1
  | dc ys => cases rp; cases ru; exact big _ h1
  | bx _ _ => have := f.ok; simp only [okD] at this
  | vo _ _ => have := f.ok; simp only [okD] at this
def oRepr (xs : List D) (Q : DK) : Prop := match xs with | [d] => Fit d ∧ Q (.st d.py.shown) | _ => False
section
variable {X : Cx} {E : XK} {pos : Pos} {a b : Expr} {da db : DT_} {k : Nat}
theorem de_repr {u : DA_} {e : Expr} {p : Pos} (hr : Room k X.A) (hgd : X.A.guards = some []) (hsys : ∃ o, X.base.get? sysModules = some o) (hg : Gl X "repr") (hm : X.mg "repr" = none) (ha : DA X E [e] u)
    (he : starEach [e] X.env = (false, eval e X.env) :: starEach [] X.env := by rfl) : DE X E (.Call (.Name "repr" p) [e] [] pos) (dCB oRepr u) := by
  refine de_callB (call_reprD hr hgd hsys) (fun S => ?_) hg hm (by decide +kernel) ha (by decide) (by decide) he rfl
  intro H vs ds Q Qd g r h k
  unfold oRepr at h
  split at h
  · cases r with
    | cons r1 r2 =>
      cases r2
      exact ⟨_, S, _, rfl, g, r1, h.1, k.now g (.st _) h.2⟩
  · exact h.elim
mutual
def plainD : D → Bool
  | .tp xs => plainDL xs
  | .ls xs => plainDL xs
  | .dc _ => false
  | .bx _ _ => false
  | .vo _ _ => false
  | .non => true
  | .bl _ => true
  | .it _ => true
  | .st _ => true
def plainDL : List D → Bool
  | [] => true
  | x :: r => plainD x && plainDL r
end
mutual
theorem plain_py : ∀ d : D, plainD d = true → d.py.plain = true
  | .non, _ => rfl
  | .bl _, _ => rfl
  | .it _, _ => rfl
  | .st _, _ => rfl
  | .tp xs, h => by simp only [plainD] at h; simp only [D.py, PyData.plain]; exact plainL_py xs h
  | .ls xs, h => by simp only [plainD] at h; simp only [D.py, PyData.plain]; exact plainL_py xs h
  | .dc _, h => by simp only [plainD] at h; cases h
  | .bx _ _, h => by simp only [plainD] at h; cases h
  | .vo _ _, h => by simp only [plainD] at h; cases h
theorem plainL_py : ∀ d : List D, plainDL d = true → PyData.plainAll (pyL d) = true
  | [], _ => rfl
  | x :: r, h => by
    simp only [plainDL, Bool.and_eq_true] at h
    simp only [pyL, PyData.plainAll, plain_py x h.1, plainL_py r h.2, Bool.and_self]
end
mutual
/-- plain data read as data, whatever their numbers -/
theorem Rp.readsP {P : Program} {w : World} {S : Sta} {H : Hp} {h : Heap} (ok : HOk P w H h) (g : Good S H) : ∀ (d : D) (v : V) (u : Value), plainD d = true → Rp S.bx S.F v d → RelV v u → ∃ as, Reads h u d.py as
  | .non, _, _, _, r, e => by cases r; cases e; exact ⟨_, by simp only [D.py]; exact Reads.none⟩
  | .bl b, _, _, _, r, e => by cases r; cases e; exact ⟨_, by simp only [D.py]; exact Reads.bool b⟩
  | .it i, _, _, _, r, e => by cases r; obtain ⟨t, rfl⟩ := e; exact ⟨_, by simp only [D.py]; exact Reads.int i t⟩
  | .st s, _, _, _, r, e => by cases r; obtain ⟨t, rfl⟩ := e; exact ⟨_, by simp only [D.py]; exact Reads.str s t⟩
  | .tp xs, _, _, k, r, e => by
    cases r with
    | @tp a vs _ e1 rr =>
      cases e
      obtain ⟨_, its, rv, o, ho, hc, n, hd⟩ : ObjOk P w H h a (.tup vs) := ok _ _ (g.fz _ _ e1)
      obtain ⟨as, h1⟩ := Rp.readsPL ok g xs vs its (by simpa only [plainD] using k) rr rv
      exact ⟨_, by simp only [D.py]; exact Reads.tuple ho hc hd h1⟩
  | .ls xs, _, _, k, r, e => by
    cases r with
    | @ls a vs _ e1 rr =>
      cases e
      obtain ⟨_, its, n, rv, ho⟩ : ObjOk P w H h a (.lst vs) := ok _ _ (g.fz _ _ e1)
      obtain ⟨as, h1⟩ := Rp.readsPL ok g xs vs its (by simpa only [plainD] using k) rr rv
      exact ⟨_, by simp only [D.py]; exact Reads.list ho rfl rfl (by simpa using h1)⟩
  | .dc kvs, _, _, k, _, _ => by simp only [plainD] at k; cases k
  | .bx _ _, _, _, k, _, _ => by simp only [plainD] at k; cases k
  | .vo _ _, _, _, k, _, _ => by simp only [plainD] at k; cases k
theorem Rp.readsPL {P : Program} {w : World} {S : Sta} {H : Hp} {h : Heap} (ok : HOk P w H h) (g : Good S H) : ∀ (d : List D) (v : List V) (u : List Value), plainDL d = true → RpL S.bx S.F v d → Vals v u → ∃ as, ReadsAll h u (pyL d) as
  | [], _, _, _, r, e => by cases r; cases e; exact ⟨_, by simp only [pyL]; exact .nil⟩
  | x :: xs, _, _, k, r, e => by
    simp only [plainDL, Bool.and_eq_true] at k
    cases r with
    | cons r1 r2 =>
      cases e with
      | cons e1 e2 =>
        obtain ⟨as, h1⟩ := Rp.readsP ok g x _ _ k.1 r1 e1
        obtain ⟨bs, h3⟩ := Rp.readsPL ok g xs _ _ k.2 r2 e2
        exact ⟨_, by simp only [pyL]; exact .cons h1 h3⟩
end
def eqD (x y : D) : Bool := PyData.eqv x.py y.py
def cmpOk (x y : D) : Prop := plainD x = true ∧ plainD y = true ∧ min (deep x) (deep y) ≤ 150
def rEqD (neg : Bool) : R2 := fun x y H Q => (∃ S dx dy, Good S H ∧ Rp S.bx S.F x dx ∧ Rp S.bx S.F y dy ∧ cmpOk dx dy ∧ Q (.bl (neg ^^ eqD dx dy)) H)
def eqIt : D → Int → Bool
  | .it i, j => i == j
  | .bl b, j => (if b then 1 else 0) == j
  | _, _ => false
def isBx : D → Bool
  | .bx _ _ => true
  | .vo _ _ => true
  | _ => false
def rEqIt (neg : Bool) : R2 := fun x y H Q => ∃ S d i, Good S H ∧ Rp S.bx S.F x d ∧ isBx d = false ∧ y = .int i ∧ Q (.bl (neg ^^ eqIt d i)) H
theorem op_eqD (hr : Room k X.A) : OpR X (compareOp .Eq) (rEqD false) := by
  intro pins s σ H x y v u Q I rx ry h
  obtain ⟨S, dx, dy, g, r1, r2, ⟨p1, p2, p3⟩, q⟩ := h
  obtain ⟨as, h1⟩ := Rp.readsP I.hok g dx x v p1 r1 rx
  obtain ⟨bs, h2⟩ := Rp.readsP I.hok g dy y u p2 r2 ry
  rw [Bool.false_xor] at q
  exact SeqAt.eq_plain h1 h2 (plain_py _ p1) (plain_py _ p2) (by rw [deep_py, deep_py]; have := hr.un; omega) ⟨.bl _, H, I, rfl, q⟩
theorem op_neD (hr : Room k X.A) : OpR X (compareOp .NotEq) (rEqD true) := by
  intro pins s σ H x y v u Q I rx ry h
  obtain ⟨S, dx, dy, g, r1, r2, ⟨p1, p2, p3⟩, q⟩ := h
  obtain ⟨as, h1⟩ := Rp.readsP I.hok g dx x v p1 r1 rx
  obtain ⟨bs, h2⟩ := Rp.readsP I.hok g dy y u p2 r2 ry
  rw [Bool.true_xor] at q
  exact SeqAt.ne_plain h1 h2 (plain_py _ p1) (plain_py _ p2) (by rw [deep_py, deep_py]; have := hr.un; omega) ⟨.bl _, H, I, rfl, q⟩
theorem rcAt_it {P : Program} {w : World} {S : Sta} {H : Hp} {s : Shared} {A : Around} (ok : HOk P w H s.heap) (g : Good S H) {d : D} {v : V} {u : Value} (hb : isBx d = false) (r : Rp S.bx S.F v d) (ru : RelV v u) (j : Int) (t : Tok) (hu : A.units < cLine) : SeqAt.RcAt A s u (.int j t) (eqIt d j) := by
  cases r with
  | non => cases ru; exact SeqAt.RcAt.none_int j t
  | bl b => cases ru; exact SeqAt.RcAt.bool_int b j t
  | it i => obtain ⟨t', rfl⟩ := ru; exact SeqAt.RcAt.int_int i t' j t
  | st x => obtain ⟨t', rfl⟩ := ru; exact SeqAt.RcAt.str_int x t' j t
  | @tp a vs _ e rr =>
    cases ru
    obtain ⟨_, its, rv, o, ho, hc, n, hd⟩ : ObjOk P w H s.heap a (.tup vs) := ok _ _ (g.fz _ _ e)
    exact SeqAt.RcAt.tuple_int j t ⟨_, ho, hc, _, hd⟩ hu
  | @ls a vs _ e rr =>
    cases ru
    obtain ⟨_, its, n, rv, ho⟩ : ObjOk P w H s.heap a (.lst vs) := ok _ _ (g.fz _ _ e)
    exact SeqAt.RcAt.list_int j t ⟨_, ho, rfl, _, rfl⟩ hu
  | @dc a vs _ e rr =>
    cases ru
    obtain ⟨_, _, us, rv, o, es, ep, ho, hx, hd, _⟩ : ObjOk P w H s.heap a (.dK vs) := ok _ _ (g.fz _ _ e)
    exact SeqAt.rcAt_dict_int j t ho hx.1 hd hu
  | bx => simp only [isBx, reduceCtorEq] at hb
  | vo => simp only [isBx, reduceCtorEq] at hb
theorem op_eqIt (hr : Room k X.A) : OpR X (compareOp .Eq) (rEqIt false) := by
  intro pins s σ H x y v u Q I rx ry h
  obtain ⟨S, d, i, g, r1, hb, rfl, q⟩ := h
  obtain ⟨t, rfl⟩ := ry
  rw [Bool.false_xor] at q
  exact rcAt_it I.hok g hb r1 rx i t (by have := hr.un; omega) X.prog X.w X.xe _ ⟨.bl _, H, I, rfl, q⟩
def oEq (x y : D) (Q : DK) : Prop := match y with
  | .it j => isBx x = false ∧ Q (.bl (eqIt x j))
  | y => cmpOk x y ∧ Q (.bl (eqD x y))
def isBxDc : D → Bool
  | .bx _ _ => true
  | .vo _ _ => true
  | .dc _ => true
  | _ => false
def rNeIt : R2 := fun x y H Q => ∃ S d i, Good S H ∧ Rp S.bx S.F x d ∧ isBxDc d = false ∧ y = .int i ∧ Q (.bl (!eqIt d i)) H
theorem rcNe_it {P : Program} {w : World} {S : Sta} {H : Hp} {s : Shared} {A : Around} (ok : HOk P w H s.heap) (g : Good S H) {d : D} {v : V} {u : Value} (hb : isBxDc d = false) (r : Rp S.bx S.F v d) (ru : RelV v u) (j : Int) (t : Tok) (hu : A.units < cLine) : SeqAt.RcNeAt A s u (.int j t) (!eqIt d j) := by
  cases r with
  | non => cases ru; exact SeqAt.RcNeAt.none_int j t
  | bl b => cases ru; exact SeqAt.RcNeAt.bool_int b j t
  | it i => obtain ⟨t', rfl⟩ := ru; exact SeqAt.RcNeAt.int_int i t' j t
  | st x => obtain ⟨t', rfl⟩ := ru; exact SeqAt.RcNeAt.str_int x t' j t
  | @tp a vs _ e rr =>
    cases ru
    obtain ⟨_, its, rv, o, ho, hc, n, hd⟩ : ObjOk P w H s.heap a (.tup vs) := ok _ _ (g.fz _ _ e)
    exact SeqAt.RcNeAt.tuple_int j t ⟨_, ho, hc, _, hd⟩ hu
  | @ls a vs _ e rr =>
    cases ru
    obtain ⟨_, its, n, rv, ho⟩ : ObjOk P w H s.heap a (.lst vs) := ok _ _ (g.fz _ _ e)
    exact SeqAt.RcNeAt.list_int j t ⟨_, ho, rfl, _, rfl⟩ hu
  | dc => simp only [isBxDc, reduceCtorEq] at hb
  | bx => simp only [isBxDc, reduceCtorEq] at hb
  | vo => simp only [isBxDc, reduceCtorEq] at hb
theorem op_neIt (hr : Room k X.A) : OpR X (compareOp .NotEq) rNeIt := by
  intro pins s σ H x y v u Q I rx ry h
  obtain ⟨S, d, i, g, r1, hb, rfl, q⟩ := h
  obtain ⟨t, rfl⟩ := ry
  exact rcNe_it I.hok g hb r1 rx i t (by have := hr.un; omega) X.prog X.w X.xe _ ⟨.bl _, H, I, rfl, q⟩
def oNe (x y : D) (Q : DK) : Prop := match y with
  | .it j => isBxDc x = false ∧ Q (.bl (!eqIt x j))
  | y => cmpOk x y ∧ Q (.bl (!eqD x y))
theorem od_eq (S : Sta) : OpD S (fun x y H Q => rEqD false x y H Q ∨ rEqIt false x y H Q) oEq := by
  intro H x y dx dy Q Qd g rx ry h k
  unfold oEq at h
  split at h
  · cases ry
    exact .inr ⟨S, _, _, g, rx, h.1, rfl, by rw [Bool.false_xor]; exact k.now g (.bl _) h.2⟩
  · exact .inl ⟨S, _, _, g, rx, ry, h.1, by rw [Bool.false_xor]; exact k.now g (.bl _) h.2⟩
theorem od_ne (S : Sta) : OpD S (fun x y H Q => rEqD true x y H Q ∨ rNeIt x y H Q) oNe := by
  intro H x y dx dy Q Qd g rx ry h k
  unfold oNe at h
  split at h
  · cases ry
    exact .inr ⟨S, _, _, g, rx, h.1, rfl, k.now g (.bl _) h.2⟩
  · exact .inl ⟨S, _, _, g, rx, ry, h.1, by rw [Bool.true_xor]; exact k.now g (.bl _) h.2⟩
theorem de_eq (hr : Room k X.A) (ha : DE X E a da) (hb : DE X E b db) (hm : behindInMarks .Eq b = false := by first | exact nobehind _ (by decide) (by decide) | rfl) : DE X E (.Compare a [.Eq] [b] pos) (dOp oEq da db) := de_cmp ((op_eqD hr).or (op_eqIt hr)) od_eq ha hb hm
theorem db_ne (hr : Room k X.A) (ha : DE X E a da) (hb : DE X E b db) (hm : behindInMarks .NotEq b = false := by first | exact nobehind _ (by decide) (by decide) | rfl) : DB X E (.Compare a [.NotEq] [b] pos) (dTst (dOp oNe da db)) := db_cmp ((op_neD hr).or (op_neIt hr)) od_ne ha hb hm
def seqOf : D → Option (List D) | .tp xs => some xs | .ls xs => some xs | _ => none
def oIn (x y : D) (Q : DK) : Prop := match seqOf y with | some ys => plainD x = true ∧ plainDL ys = true ∧ deep x ≤ 150 ∧ Q (.bl (ys.any fun z => eqD z x)) | none => False
def oNotIn (x y : D) (Q : DK) : Prop := match seqOf y with | some ys => plainD x = true ∧ plainDL ys = true ∧ deep x ≤ 150 ∧ Q (.bl (!ys.any fun z => eqD z x)) | none => False
end
def oMulA (x y : D) (Q : DK) : Prop := match x, y with
  | .it i, .it j => CMul i j ∧ Q (.it (i * j))
  | .tp i, .it j => -(2 ^ 63) ≤ j ∧ j ≤ 1000 ∧ i.length ≤ 1000 ∧ Q (.tp (List.replicate j.toNat i).flatten)
  | .ls i, .it j => -(2 ^ 63) ≤ j ∧ j < 2 ^ 63 ∧ szOk (i.length * j.toNat) ∧ Q (.ls (List.replicate j.toNat i).flatten)
  | _, _ => False
section
variable {X : Cx} {E : XK} {pos : Pos} {a b : Expr} {da db : DT_} {k : Nat}
def dRev (da : DT_) : DT_ := fun env Q E => da env (fun x => match x with | .tp xs => Q (.tp xs.reverse) | .ls xs => Q (.ls xs.reverse) | _ => False) E
def dDic0 : DT_ := fun _ Q _ => Q (.dc [])
theorem de_dic0 : DE X E (.Dict [] [] pos) dDic0 := by
  refine ⟨_, pe_dnewK, fun Z S H σ env Q Qd Ed g r l h k p hp => ?_⟩
  obtain ⟨s, g'⟩ := step_new g (o := .dK []) hp
  exact k _ _ _ _ s g' (.dc (by show upd S.F p (.dK []) p = _; exact upd_same) .nil) h
def dDic1 (x : Str) (da : DT_) : DT_ := fun env Q E => da env (fun y => Q (.dc [(.inr x, y)])) E
theorem de_dic1 {x : Str} {j p1} (ha : DE X E a da) : DE X E (.Dict [some (.Constant (.str x) j p1)] [a] pos) (dDic1 x da) := by
  obtain ⟨t, pa, q⟩ := ha.run
  refine ⟨_, pe_disp (pps_cons pe_str pa pps_nil) rfl rfl (by simp) (by show 1 ≤ 15; decide), fun Z S H σ env Q Qd Ed g r l h k p hp => ?_⟩
  obtain ⟨s0, g0⟩ := step_own g (o := .dK []) hp
  have nb : ¬ InB S.bx p := fun z => (by obtain ⟨o, e⟩ := g.box z; rw [hp] at e; cases e)
  have nf : S.F p = none := none_of_keep fun o e => (by have := g.fz _ _ e; rw [hp] at this; cases this)
  refine q Z S (upd H p (.dK [])) σ env _ _ Ed g0 (r.step s0) (l.step s0 g0) h fun v H1 S1 y s1 g1 r1 h1 => ?_
  have e1 : H1 p = some (.dK []) := s1.keep _ _ upd_same nb
  have nf1 : S1.F p = none := none_of_keep fun o e => (by
    rcases s1.new _ _ e with z | z
    · rw [nf] at z; cases z
    · rw [upd_same] at z; cases z)
  have nb1 : ¬ InB S1.bx p := fun z => (by
    rcases s1.inB z with z | z
    · exact nb z
    · rw [upd_same] at z; cases z)
  refine ⟨e1, [(.inr x, v)], rfl, by show 1 ≤ 15; decide, ?_⟩
  have em : mergeK [] [((.inr x : Key), v)] = [((.inr x : Key), v)] := rfl
  rw [em]
  have g2 := good_mut (o := .dK [((.inr x : Key), v)]) g1 (nx_dK e1) nf1 nb1
  have g3 := good_frz g2 upd_same nb1
  have s2 : Stp S H ⟨S1.bx, upd S1.F p (.dK [((.inr x : Key), v)])⟩ (upd H1 p (.dK [((.inr x : Key), v)])) := by
    have s01 := s0.trans g0 s1
    refine ⟨fun b o e => ?_, fun b o e => ?_, s01.box, fun b o e hb => ?_⟩
    · have : b ≠ p := fun z => by rw [z, nf] at e; cases e
      show upd S1.F p _ b = _
      rw [upd_ne this]; exact s01.ext b o e
    · by_cases z : b = p
      · rw [z]; exact .inr hp
      · have e' : upd S1.F p (.dK [((.inr x : Key), v)]) b = some o := e
        rw [upd_ne z] at e'
        exact s01.new b o e'
    · rw [upd_ne (ne_of_none e hp)]; exact s01.keep b o e hb
  have le : Le S1.bx S1.F S1.bx (upd S1.F p (.dK [((.inr x : Key), v)])) := ⟨fun b o e => by
    have : b ≠ p := fun z => by rw [z, nf1] at e; cases e
    rw [upd_ne this]; exact e, fun _ e => e⟩
  exact k _ _ _ _ s2 g3 (.dc (by show upd S1.F p _ p = _; exact upd_same) (.cons (r1.le le) .nil)) h1
def oInt (xs : List D) (Q : DK) : Prop := match xs with | [.it i] => Q (.it i) | [.bl b] => Q (.it (if b then 1 else 0)) | _ => False
def oAbs (xs : List D) (Q : DK) : Prop := match xs with | [.it i] => Q (.it (if i < 0 then -i else i)) | _ => False
theorem de_int1 {u : DA_} {e : Expr} {p : Pos} (hg : Gl X "int") (hm : X.mg "int" = none) (ha : DA X E [e] u) (he : starEach [e] X.env = (false, eval e X.env) :: starEach [] X.env := by rfl) : DE X E (.Call (.Name "int" p) [e] [] pos) (dCB oInt u) := by
  refine de_callTy call_int1 (fun S => ?_) hg hm (by decide +kernel) ha (by decide) (by decide) he rfl
  intro H vs ds Q Qd g r h k
  unfold oInt at h
  split at h
  · cases r with
    | cons r1 r2 => cases r2; cases r1; exact .inl ⟨_, rfl, k.now g (.it _) h⟩
  · cases r with
    | cons r1 r2 => cases r2; cases r1; exact .inr ⟨_, rfl, k.now g (.it _) h⟩
  · exact h.elim
theorem de_abs {u : DA_} {e : Expr} {p : Pos} (hg : Gl X "abs") (hm : X.mg "abs" = none) (ha : DA X E [e] u) (he : starEach [e] X.env = (false, eval e X.env) :: starEach [] X.env := by rfl) : DE X E (.Call (.Name "abs" p) [e] [] pos) (dCB oAbs u) := by
  refine de_callB call_abs (fun S => ?_) hg hm (by decide +kernel) ha (by decide) (by decide) he rfl
  intro H vs ds Q Qd g r h k
  unfold oAbs at h
  split at h
  · cases r with
    | cons r1 r2 => cases r2; cases r1; exact ⟨_, rfl, k.now g (.it _) h⟩
  · exact h.elim
def intsD : List D → Option (List Int)
  | [] => some []
  | .it i :: r => (intsD r).map (i :: ·)
  | _ => none
theorem rpl_ints {t : Option Bx} {F : Hp} : ∀ {ns : List Int} {vs : List V}, RpL t F vs (ns.map D.it) → vs = ns.map V.int
  | [], _, .nil => rfl
  | n :: r, _, .cons h1 h2 => by cases h1; rw [rpl_ints h2]; rfl
def boolsD : List D → Option (List Bool)
  | [] => some []
  | .bl i :: r => (boolsD r).map (i :: ·)
  | _ => none
def oSum (xs : List D) (Q : DK) : Prop := match xs with | [.ls ys] => ∃ ns, intsD ys = some ns ∧ Q (.it ns.sum) | _ => False
def oMaxL (xs : List D) (Q : DK) : Prop := match xs with
  | [.ls ys] => ∃ ns, intsD ys = some ns ∧ ns ≠ [] ∧ ∀ m, m ∈ ns → (∀ y ∈ ns, y ≤ m) → Q (.it m)
  | [.it i, .it j] => Q (.it (if j > i then j else i))
  | _ => False
def oMinL (xs : List D) (Q : DK) : Prop := match xs with
  | [.ls ys] => ∃ ns, intsD ys = some ns ∧ ns ≠ [] ∧ ∀ m, m ∈ ns → (∀ y ∈ ns, m ≤ y) → Q (.it m)
  | [.it i, .it j] => Q (.it (if j < i then j else i))
  | _ => False
def oAny (xs : List D) (Q : DK) : Prop := match xs with | [.ls ys] => ∃ ns, boolsD ys = some ns ∧ Q (.bl (ns.any id)) | _ => False
def oAll (xs : List D) (Q : DK) : Prop := match xs with | [.ls ys] => ∃ ns, boolsD ys = some ns ∧ Q (.bl (ns.all id)) | _ => False
end
mutual
def lfD : D → Bool
  | .tp xs => lfL xs
  | .ls _ => false
  | .dc kvs => lfK kvs
  | .bx _ _ => true
  | .vo _ _ => false
  | .non => true
  | .bl _ => true
  | .it _ => true
  | .st _ => true
def lfL : List D → Bool
  | [] => true
  | x :: r => lfD x && lfL r
def lfK : List (Key × D) → Bool
  | [] => true
  | (_, x) :: r => lfD x && lfK r
end
def cut (F : Hp) (p : Addr) : Hp := fun a => if a = p then none else F a
theorem cut_ne {F : Hp} {p a : Addr} (h : a ≠ p) : cut F p a = F a := by unfold cut; rw [if_neg h]
theorem cut_some {F : Hp} {p a : Addr} {o : HO} (h : cut F p a = some o) : a ≠ p ∧ F a = some o := by
  unfold cut at h
  split at h
  · cases h
  · next n => exact ⟨n, h⟩
mutual
theorem Rp.lf {t : Option Bx} {F : Hp} {p : Addr} {ws : List V} (hp : F p = some (.lst ws)) : ∀ {v : V} {d : D}, Rp t F v d → lfD d = true → Rp t (cut F p) v d
  | _, _, .non, _ => .non
  | _, _, .bl b, _ => .bl b
  | _, _, .it i, _ => .it i
  | _, _, .st s, _ => .st s
  | _, _, .tp e r, h => .tp (by rw [cut_ne fun z => by rw [z, hp] at e; cases e]; exact e) (RpL.lf hp r (by simpa only [lfD] using h))
  | _, _, .ls e r, h => by simp only [lfD] at h; cases h
  | _, _, .dc e r, h => .dc (by rw [cut_ne fun z => by rw [z, hp] at e; cases e]; exact e) (RpK.lf hp r (by simpa only [lfD] using h))
  | _, _, .bx e p, _ => .bx e p
  | _, _, .vo _ _ _ _, h => by simp only [lfD] at h; cases h
theorem RpL.lf {t : Option Bx} {F : Hp} {p : Addr} {ws : List V} (hp : F p = some (.lst ws)) : ∀ {v : List V} {d : List D}, RpL t F v d → lfL d = true → RpL t (cut F p) v d
  | _, _, .nil, _ => .nil
  | _, _, .cons r s, h => by
    simp only [lfL, Bool.and_eq_true] at h
    exact .cons (Rp.lf hp r h.1) (RpL.lf hp s h.2)
theorem RpK.lf {t : Option Bx} {F : Hp} {p : Addr} {ws : List V} (hp : F p = some (.lst ws)) : ∀ {v : List (Key × V)} {d : List (Key × D)}, RpK t F v d → lfK d = true → RpK t (cut F p) v d
  | _, _, .nil, _ => .nil
  | _, _, .cons r s, h => by
    simp only [lfK, Bool.and_eq_true] at h
    exact .cons (Rp.lf hp r h.1) (RpK.lf hp s h.2)
end
def Sta.with (S : Sta) (p : Addr) (vs : List V) : Sta := ⟨S.bx, upd S.F p (.lst vs)⟩
theorem frz_step {S : Sta} {H : Hp} {p : Addr} {vs : List V} (g : Good S H) (hp : H p = some (.lst vs)) (hf : S.F p = none) (hb : ¬ InB S.bx p) : Good (S.with p vs) H := good_frz g hp hb
theorem frz_le {S : Sta} {p : Addr} {vs : List V} (hf : S.F p = none) : Le S.bx S.F (S.with p vs).bx (S.with p vs).F := ⟨fun b o e => by
    have : b ≠ p := fun z => by rw [z, hf] at e; cases e
    show upd S.F p (.lst vs) b = _
    rw [upd_ne this]; exact e, fun _ e => e⟩
theorem thaw {S S2 : Sta} {H H2 : Hp} {p : Addr} {vs : List V} (g : Good S H) (hp : H p = some (.lst vs)) (hf : S.F p = none) (hb : ¬ InB S.bx p) (s : Stp (S.with p vs) H S2 H2) (g2 : Good S2 H2) :
    Stp S H ⟨S2.bx, cut S2.F p⟩ H2 ∧ Good ⟨S2.bx, cut S2.F p⟩ H2 ∧ S2.F p = some (.lst vs) := by
  have ep : S2.F p = some (.lst vs) := s.ext _ _ (by show upd S.F p (.lst vs) p = _; exact upd_same)
  refine ⟨⟨fun b o e => ?_, fun b o e => ?_, s.box, s.keep⟩, ⟨fun b o e => g2.fz b o (cut_some e).2, g2.bx, fun b hb => ?_⟩, ep⟩
  · have n : b ≠ p := fun z => by rw [z, hf] at e; cases e
    show cut S2.F p b = _
    rw [cut_ne n]
    exact s.ext b o ((frz_le hf).f b o e)
  · obtain ⟨n, e⟩ := cut_some e
    rcases s.new b o e with z | z
    · have z' : upd S.F p (.lst vs) b = some o := z
      rw [upd_ne n] at z'
      exact .inl z'
    · exact .inr z
  · show cut S2.F p b = none
    unfold cut
    split
    · rfl
    · exact g2.nb b hb
theorem Rel.lend {Z : Hp} {S : Sta} {H : Hp} {σ : L2.St} {env : Env'} (r : Rel Z S H σ env) {i : Nat} {xs : List D} (e : env[i]? = some (.own xs)) :
    ∃ p vs, σ[i]? = some (some (.ref p)) ∧ H p = some (.lst vs) ∧ S.F p = none ∧ ¬ InB S.bx p ∧ Z p = none ∧ RpL S.bx S.F vs xs ∧ (∀ j ys, j ≠ i → env[j]? = some (.own ys) → ∀ a, σ[j]? = some (some (.ref a)) → a ≠ p) ∧
      Rel Z (S.with p vs) H σ (env.set i (.v (.ls xs))) := by
  obtain ⟨p, vs, e1, e2, e3, e4, e5, e6⟩ := r.at_ i _ e
  have other : ∀ j ys, j ≠ i → env[j]? = some (.own ys) → ∀ a, σ[j]? = some (some (.ref a)) → a ≠ p := fun j ys hj ej a ea z => by
    subst z
    exact r.sep i j xs ys a (Ne.symm hj) e ej e1 ea
  refine ⟨p, vs, e1, e2, e3, e4, e5, e6, other, ⟨?_, fun j s ej => ?_, fun j k ys zs a hjk e7 e8 h1 => ?_, r.sepO.put rfl⟩⟩
  · rw [List.length_set]; exact r.len
  · by_cases hj : j = i
    · subst hj
      have hl : j < env.length := (List.getElem?_eq_some_iff.mp e).1
      rw [List.getElem?_set_self hl] at ej
      cases ej
      exact ⟨_, e1, .ls (by show upd S.F p (.lst vs) p = _; exact upd_same) (e6.le (frz_le e3))⟩
    · rw [List.getElem?_set_ne (Ne.symm hj)] at ej
      have q := r.at_ j s ej
      cases s with
      | no => trivial
      | v d => obtain ⟨x, q1, q2⟩ := q; exact ⟨x, q1, q2.le (frz_le e3)⟩
      | xn a' dx x => exact ⟨q.1, q.2.more rfl (frz_le e3) fun _ _ e => e⟩
      | ob w b C fs => exact ⟨q.1, q.2.frz (fun u e => by rw [e2] at e; cases e; rfl) (frz_le e3)⟩
      | own ds =>
        obtain ⟨a, us, q1, q2, q3, q4, q5, q6⟩ := q
        have n : a ≠ p := other j ds hj ej a q1
        exact ⟨a, us, q1, q2, by show upd S.F p (.lst vs) a = none; rw [upd_ne n]; exact q3, q4, q5, q6.le (frz_le e3)⟩
  · have n1 : j ≠ i := fun z => by
      subst z
      have hl : j < env.length := (List.getElem?_eq_some_iff.mp e).1
      rw [List.getElem?_set_self hl] at e7; cases e7
    have n2 : k ≠ i := fun z => by
      subst z
      have hl : k < env.length := (List.getElem?_eq_some_iff.mp e).1
      rw [List.getElem?_set_self hl] at e8; cases e8
    rw [List.getElem?_set_ne (Ne.symm n1)] at e7
    rw [List.getElem?_set_ne (Ne.symm n2)] at e8
    exact r.sep j k ys zs a hjk e7 e8 h1
def lfX (x : Exn) : Prop := ∀ f ∈ x.fs, lfD f.2 = true
theorem XRep.lf {mg : Str → Option Value} {S : Sta} {H : Hp} {C : Value} {dx : Option Addr} {x : Exn} {p : Addr} {ws : List V} (hp : S.F p = some (.lst ws)) (h : XRep mg S H C dx x) (l : lfX x) : XRep mg ⟨S.bx, cut S.F p⟩ H C dx x := by
  obtain ⟨h1, h2⟩ := h
  refine ⟨h1, ?_⟩
  rcases h2 with h2 | ⟨d, fs, e1, e2, e4, e3⟩
  · exact .inl h2
  · refine .inr ⟨d, fs, e1, e2, e4, ?_⟩
    obtain ⟨c, xs⟩ := x
    have l' : ∀ f ∈ xs, lfD f.2 = true := l
    have e3' : Paired (fun (p : Str × V) (q : Str × D) => p.1 = q.1 ∧ Rp S.bx S.F p.2 q.2) fs xs := e3
    clear e1 e2 e4 h1 e3 l
    show Paired _ fs xs
    induction e3' with
    | nil => exact .nil
    | cons h t ih => exact .cons ⟨h.1, Rp.lf hp h.2 (l' _ (by simp))⟩ (ih fun f hf => l' f (List.mem_cons_of_mem _ hf))
theorem XLink.lend {mg : Str → Option Value} {S : Sta} {H : Hp} {Ed : EK} {E : XK} {p : Addr} {vs : List V} (l : XLink mg S H Ed E) (g : Good S H) (hp : H p = some (.lst vs)) (hf : S.F p = none) (hb : ¬ InB S.bx p) :
    XLink mg (S.with p vs) H (fun x => lfX x ∧ Ed x) E := fun C dx H' S' x s g' r h => by
  obtain ⟨a, b, c⟩ := thaw g hp hf hb s g'
  exact l C dx H' _ x a b (r.lf c h.1) h.2
section
variable {X : Cx} {E : XK} {pos : Pos} {e : Expr} {de : DT_} {db : DB_} {d : DS_} {k : Nat}
def dLend (i : Nat) (de : DT_) : DT_ := fun env Q E => match env[i]? with
  | some (.own xs) => de (env.set i (.v (.ls xs))) (fun y => lfD y = true ∧ Q y) (fun x => lfX x ∧ E x)
  | _ => de env Q E
def dbLend (i : Nat) (de : DB_) : DB_ := fun env Q E => match env[i]? with
  | some (.own xs) => de (env.set i (.v (.ls xs))) Q (fun x => lfX x ∧ E x)
  | _ => de env Q E
def dFrzS (i : Nat) (d : DS_) : DS_ := fun De env => match env[i]? with
  | some (.own xs) => d De (env.set i (.v (.ls xs)))
  | _ => d De env
theorem frz_at {B : Base} {S : Sta} {H : Hp} {a : Addr} {vs : List V} (at_ : At B S H) (e : H a = some (.lst vs)) (z : B.H0 a = none) (f : S.F a = none) (b : ¬ InB S.bx a) : At B ⟨S.bx, upd S.F a (.lst vs)⟩ H := by
  have le := frz_le (vs := vs) f
  refine ⟨good_frz at_.g e b, ⟨fun c o ec => le.f c o (at_.p.ext c o ec), fun c o ec => ?_, at_.p.box, at_.p.keep⟩, at_.f.trans le⟩
  by_cases hz : c = a
  · rw [hz]; exact .inr z
  · have e' : upd S.F a (.lst vs) c = some o := ec
    rw [upd_ne hz] at e'
    exact at_.p.new c o e'
theorem ds_frz (i : Nat) {st : Stmt} (h : DS X E st d) : DS X E st (dFrzS i d) := by
  obtain ⟨t, p, q⟩ := h.run
  refine ⟨t, p, fun B De Dn l S σ env H a r h => ?_⟩
  unfold dFrzS at h
  split at h
  · next xs ei =>
    obtain ⟨b, vs, e1, e2, e3, e4, e5, e6, _, r'⟩ := r.lend ei
    exact q B De Dn l _ σ _ H (frz_at a e2 e5 e3 e4) r' h
  · exact q B De Dn l S σ env H a r h
theorem at_mut {B : Base} {S : Sta} {H : Hp} {b : Addr} {us : List V} (a : At B S H) (z : B.H0 b = none) (f : S.F b = none) (nb : ¬ InB S.bx b) (hx : ∀ f, H b ≠ some (.ext f)) : At B S (upd H b (.lst us)) :=
  ⟨good_mut a.g hx f nb, ⟨a.p.ext, a.p.new, a.p.box, fun c o ec hc => by rw [upd_ne (ne_of_none ec z)]; exact a.p.keep c o ec hc⟩, a.f⟩
def dSetIx (i : Nat) (di de : DT_) : DS_ := fun De env => match env[i]? with
  | some (.own xs) => de env (fun y => di env (fun z => match z with
    | .it k => (match ixN xs.length k with | some j => De.nx (env.set i (.own (xs.set j y))) | none => False)
    | _ => False) De.ex) De.ex
  | _ => False
def dAugIx (i : Nat) (f : Int → Int → Int) (di de : DT_) : DS_ := fun De env => match env[i]? with
  | some (.own xs) => di env (fun z => match z with
    | .it k => (match ixN xs.length k with
      | some j => (match xs[j]? with
        | some (.it n) => de env (fun y => match y with | .it m => De.nx (env.set i (.own (xs.set j (.it (f n m))))) | _ => False) De.ex
        | _ => False)
      | none => False)
    | _ => False) De.ex
  | _ => False
def dParO (i j : Nat) (dn : DN_) (da : DT_) : DS_ := fun De env => dn env (fun xs => da env (fun y => De.nx ((env.set i (.own xs)).set j (.v y))) De.ex) De.ex
end
section
variable {dg : DG_} {tt : DB_} {te : DT_} {env : Env'} {Q : List D → Prop}
theorem lcD_of (f : D → Option D) : ∀ (xs acc : List D),
    (∀ x ∈ xs, ∀ (Y : D → Prop) (N : Prop), (∀ y, f x = some y → Y y) → (f x = none → N) → dg x env fun env1 => tt env1 (fun b => match b with | true => te env1 Y (fun _ => False) | false => N) (fun _ => False)) →
    acc.length + xs.length ≤ sizeLine → Q (acc ++ xs.filterMap f) → lcD dg tt te env (fun _ => False) Q xs acc
  | [], acc, _, _, h => by rw [List.filterMap_nil, List.append_nil] at h; exact h
  | x :: xs, acc, hs, hl, h => by
    show dg x env fun env1 => tt env1 (fun b => match b with | true => te env1 (fun y => acc.length < sizeLine ∧ lcD dg tt te env (fun _ => False) Q xs (acc ++ [y])) (fun _ => False) | false => lcD dg tt te env (fun _ => False) Q xs acc) (fun _ => False)
    have hl' : acc.length + (xs.length + 1) ≤ sizeLine := by simpa using hl
    refine hs x (by simp) _ _ (fun y ey => ⟨by omega, ?_⟩) (fun en => ?_)
    · refine lcD_of f xs (acc ++ [y]) (fun z hz => hs z (List.mem_cons_of_mem _ hz)) (by simp; omega) ?_
      rw [List.filterMap_cons, ey] at h
      simpa using h
    · refine lcD_of f xs acc (fun z hz => hs z (List.mem_cons_of_mem _ hz)) (by omega) ?_
      rw [List.filterMap_cons, en] at h
      simpa using h
inductive All2 (R : Nat → D → D → Prop) : Nat → List D → List D → Prop where
  | nil {i : Nat} : All2 R i [] []
  | cons {i : Nat} {x y : D} {xs ys : List D} : R i x y → All2 R (i + 1) xs ys → All2 R i (x :: xs) (y :: ys)
theorem All2.length {R : Nat → D → D → Prop} : ∀ {i : Nat} {xs ys : List D}, All2 R i xs ys → ys.length = xs.length
  | _, _, _, .nil => rfl
  | _, _, _, .cons _ t => by rw [List.length_cons, List.length_cons, t.length]
theorem All2.mem {R : Nat → D → D → Prop} : ∀ {i : Nat} {xs ys : List D}, All2 R i xs ys → ∀ y ∈ ys, ∃ j x, R j x y
  | _, _, _, .nil, y, h => by cases h
  | _, _, _, .cons r t, y, h => by
    rcases List.mem_cons.mp h with rfl | h
    · exact ⟨_, _, r⟩
    · exact t.mem y h
theorem lcD_rel (R : Nat → D → D → Prop) : ∀ (i : Nat) (xs acc : List D),
    (∀ (j : Nat) (x : D), xs[j]? = some x → ∀ (Y : D → Prop), (∀ y, R (i + j) x y → Y y) → dg x env fun env1 => te env1 Y (fun _ => False)) →
    acc.length + xs.length ≤ sizeLine → (∀ ys, All2 R i xs ys → Q (acc ++ ys)) → lcD dg dYes te env (fun _ => False) Q xs acc
  | i, [], acc, _, _, h => by have := h [] .nil; rw [List.append_nil] at this; exact this
  | i, x :: xs, acc, hs, hl, h => by
    show dg x env fun env1 => te env1 (fun y => acc.length < sizeLine ∧ lcD dg dYes te env (fun _ => False) Q xs (acc ++ [y])) (fun _ => False)
    have hl' : acc.length + (xs.length + 1) ≤ sizeLine := by simpa using hl
    refine hs 0 x rfl _ fun y r => ⟨by omega, ?_⟩
    refine lcD_rel R (i + 1) xs (acc ++ [y]) (fun j z hz Y hY => hs (j + 1) z hz Y fun w hw => hY w (by rw [Nat.add_right_comm, Nat.add_assoc]; exact hw)) (by simp; omega) fun ys hys => ?_
    have := h (y :: ys) (.cons r hys)
    simpa using this
theorem lcD_map (f : D → D) (xs : List D) (hs : ∀ x ∈ xs, ∀ (Y : D → Prop), Y (f x) → dg x env fun env1 => te env1 Y (fun _ => False)) (hl : xs.length ≤ sizeLine) (h : Q (xs.map f)) : lcD dg dYes te env (fun _ => False) Q xs [] := by
  refine lcD_rel (fun _ x y => y = f x) 0 xs [] (fun j x hx Y hY => hs x (List.mem_of_getElem? hx) Y (hY _ rfl)) (by simpa using hl) fun ys hys => ?_
  have key : ∀ {i : Nat} {xs ys : List D}, All2 (fun _ x y => y = f x) i xs ys → ys = xs.map f := fun {i xs ys} h => by
    induction h with
    | nil => rfl
    | cons r _ ih => rw [List.map_cons, r, ih]
  rw [List.nil_append, key hys]
  exact h
end
section
variable {dg : DG_} {db : DS_} {De : DEnds}
end
section
variable {X : Cx} {E : XK} {elt tg iter : Expr} {ifs : List Expr} {scope : Scope} {own : List (Str × Nat)} {pos : Pos} {vsg : List Nat} {dg : DG_} {tt : DB_} {te : DT_} {wi : TI}
theorem frz_new {S S' : Sta} {H H' : Hp} {p : Addr} {vs : List V} (s' : Stp S H S' H') (g' : Good S' H') (h0 : H p = none) (h1 : H' p = some (.lst vs)) (h2 : S'.F p = none) (h3 : ¬ InB S'.bx p) :
    Stp S H ⟨S'.bx, upd S'.F p (.lst vs)⟩ H' ∧ Good ⟨S'.bx, upd S'.F p (.lst vs)⟩ H' ∧ Le S'.bx S'.F S'.bx (upd S'.F p (.lst vs)) := by
  have le : Le S'.bx S'.F S'.bx (upd S'.F p (.lst vs)) := ⟨fun b o e => by
    have : b ≠ p := fun z => by rw [z, h2] at e; cases e
    rw [upd_ne this]; exact e, fun x e => e⟩
  refine ⟨⟨fun b o e => le.f b o (s'.ext b o e), fun b o e => ?_, s'.box, s'.keep⟩, good_frz g' h1 h3, le⟩
  by_cases z : b = p
  · rw [z]; exact .inr h0
  · have e' : upd S'.F p (.lst vs) b = some o := e
    rw [upd_ne z] at e'
    exact s'.new b o e'
def LcRaw (X : Cx) (st : Stmt) (i : Nat) (wi : TI) (dg : DG_) (tt : DB_) (te : DT_) (vs : List Nat) : Prop :=
    ∃ t, PS X st t ∧ ∀ (Dn : Ends) (Z : Hp) (S : Sta) (H : Hp) (σ : L2.St) (env : Env') (Qd : List D → Prop), Good S H → Rel Z S H σ env →
      (∀ R : It → Hp → Prop, (∀ J H' S' xs, Stp S H S' H' → Good S' H' → Wlk S'.bx S'.F J xs → lcD dg tt te (wipeD env vs) (fun _ => False) Qd xs [] → R J H') → wi σ H R) →
      (∀ p H' S' xs, Stp S H S' H' → Good S' H' → Rp S'.bx S'.F (.ref p) (.ls xs) → Qd xs → Dn.nx (σ.set i (some (.ref p))) H') → t Dn σ H
theorem lcN_raw (i : Nat) {y : Str} {py spos : Pos} (hc : X.calm = true) (hN : X.N.Nodup) (hi : PI X tg iter wi) (ok : BlkOk X.N X.env.scope scope own) (hv : ∀ i ∈ vsg, i ∈ own.map (·.2)) (hg : ∀ s H C cl fp, DG (BCx X scope s H C cl fp) tg vsg dg)
    (ht : ∀ s H C cl fp, DTs (BCx X scope s H C cl fp) E0 ifs tt) (he : ∀ s H C cl fp, DE (BCx X scope s H C cl fp) E0 elt te)
    (hsw : swapsWith (.ListComp elt [⟨tg, iter, ifs, 0⟩] scope pos) (some (.Name y py)) spos.line X.env = pure true) (hy : X.N[i]? = some y := by rfl) (hyl : X.env.scope.names.lookup y = some .local := by rfl) (hs : ∀ x, foldedSetIterable iter X.env x = pure x := by intro _; rfl) :
    LcRaw X (.Assign [.Name y py] (.ListComp elt [⟨tg, iter, ifs, 0⟩] scope pos) spos) i wi dg tt te (own.map (·.2)) := by
  obtain ⟨g, pg, sg⟩ := allG hg
  obtain ⟨t1, p1, s1⟩ := allT ht
  obtain ⟨t2, p2, s2⟩ := allE he
  refine ⟨_, ps_setLc hc hN hy hyl hsw hi ok pg p1 p2 hs, fun Dn Z S H σ env Qd gd r si k => ?_⟩
  refine lc_at (X := X) hv gd r si sg s1 s2 fun p H' S' vs xs st g' h0 h1 h2 h3 rr hq => ?_
  obtain ⟨a, b, c⟩ := frz_new st g' h0 h1 h2 h3
  exact k p H' _ xs a b (.ls (by show upd S'.F p (.lst vs) p = _; exact upd_same) (rr.le c)) hq
end
theorem plain_ints : ∀ ns : List Int, plainDL (ns.map D.it) = true
  | [] => rfl
  | n :: r => by simp only [List.map_cons, plainDL, plainD, plain_ints r, Bool.and_self]
theorem eq_ints_nil (ns : List Int) : eqD (.ls (ns.map D.it)) (.ls []) = decide (ns = []) := by
  cases ns with
  | nil => rfl
  | cons n r => rfl
theorem cmp_ints_nil (ns : List Int) : cmpOk (.ls (ns.map D.it)) (.ls []) := by
  refine ⟨?_, rfl, ?_⟩
  · simp only [plainD]; exact plain_ints ns
  · simp only [deep, deepL]
    omega
theorem lc_filt {dg : DG_} {tt : DB_} {te : DT_} {env : Env'} {Q : List D → Prop} (p : Int → Bool) (ns : List Int)
    (h : ∀ n ∈ ns, ∀ (Y : D → Prop) (N : Prop), (p n = true → Y (.it n)) → (p n = false → N) → dg (.it n) env fun env1 => tt env1 (fun b => match b with | true => te env1 Y (fun _ => False) | false => N) (fun _ => False))
    (hl : ns.length ≤ sizeLine) (k : Q ((ns.filter p).map D.it)) : lcD dg tt te env (fun _ => False) Q (ns.map D.it) [] := by
  have e : ∀ ns : List Int, (ns.map D.it).filterMap (fun x => match x with | .it n => if p n = true then some x else none | _ => none) = (ns.filter p).map D.it := by
    intro ns
    induction ns with
    | nil => rfl
    | cons n r ih =>
      rw [List.map_cons, List.filterMap_cons]
      by_cases hp : p n = true
      · rw [List.filter_cons_of_pos hp]
        simp only [hp, if_true, List.map_cons]
        exact congrArg _ ih
      · rw [List.filter_cons_of_neg hp]
        simp only [hp, if_false]
        exact ih
  refine lcD_of (fun x => match x with | .it n => if p n = true then some x else none | _ => none) _ [] (fun x hx Y N h1 h2 => ?_) (by simpa using hl) ?_
  · obtain ⟨n, hn, rfl⟩ := List.mem_map.mp hx
    refine h n hn Y N (fun hp => h1 _ ?_) (fun hp => h2 ?_)
    · simp only [hp, if_true]
    · simp only [hp, Bool.false_eq_true, if_false]
  · rw [List.nil_append, e]; exact k
theorem okL_iff : ∀ {xs : List D}, okL xs ↔ ∀ x ∈ xs, okD x
  | [] => by simp [okL]
  | x :: r => by
    simp only [okL, List.mem_cons, forall_eq_or_imp]
    rw [okL_iff]
theorem massL_append : ∀ xs ys : List D, massL (xs ++ ys) = massL xs + massL ys
  | [], _ => by simp [massL]
  | x :: r, ys => by simp only [List.cons_append, massL, massL_append r ys]; omega
theorem deepL_append : ∀ xs ys : List D, deepL (xs ++ ys) = max (deepL xs) (deepL ys)
  | [], _ => by simp [deepL]
  | x :: r, ys => by simp only [List.cons_append, deepL, deepL_append r ys]; omega
theorem massL_take : ∀ (n : Nat) (xs : List D), massL (xs.take n) ≤ massL xs
  | 0, _ => by simp [massL]
  | _ + 1, [] => by simp [massL]
  | n + 1, x :: r => by simp only [List.take_succ_cons, massL]; have := massL_take n r; omega
theorem massL_drop : ∀ (n : Nat) (xs : List D), massL (xs.drop n) ≤ massL xs
  | 0, _ => by simp
  | _ + 1, [] => by simp [massL]
  | n + 1, x :: r => by simp only [List.drop_succ_cons, massL]; have := massL_drop n r; omega
theorem deepL_take : ∀ (n : Nat) (xs : List D), deepL (xs.take n) ≤ deepL xs
  | 0, _ => by simp [deepL]
  | _ + 1, [] => by simp [deepL]
  | n + 1, x :: r => by simp only [List.take_succ_cons, deepL]; have := deepL_take n r; omega
theorem deepL_drop : ∀ (n : Nat) (xs : List D), deepL (xs.drop n) ≤ deepL xs
  | 0, _ => by simp
  | _ + 1, [] => by simp [deepL]
  | n + 1, x :: r => by simp only [List.drop_succ_cons, deepL]; have := deepL_drop n r; omega
theorem massL_rep (xs : List D) : ∀ n : Nat, massL (List.replicate n xs).flatten = n * massL xs
  | 0 => by simp [massL]
  | n + 1 => by rw [List.replicate_succ, List.flatten_cons, massL_append, massL_rep xs n, Nat.succ_mul]; omega
theorem deepL_rep (xs : List D) : ∀ n : Nat, deepL (List.replicate n xs).flatten ≤ deepL xs
  | 0 => by simp [deepL]
  | n + 1 => by rw [List.replicate_succ, List.flatten_cons, deepL_append]; have := deepL_rep xs n; omega
theorem mass_mem : ∀ {xs : List D} {x : D}, x ∈ xs → mass x ≤ massL xs
  | y :: r, x, h => by
    simp only [massL]
    rcases List.mem_cons.mp h with rfl | h
    · omega
    · have := mass_mem h; omega
theorem deep_mem : ∀ {xs : List D} {x : D}, x ∈ xs → deep x ≤ deepL xs
  | y :: r, x, h => by
    simp only [deepL]
    rcases List.mem_cons.mp h with rfl | h
    · omega
    · have := deep_mem h; omega
theorem massL_le {c : Nat} : ∀ {xs : List D}, (∀ x ∈ xs, mass x ≤ c) → massL xs ≤ xs.length * c
  | [], _ => by simp [massL]
  | x :: r, h => by
    simp only [massL, List.length_cons, Nat.succ_mul]
    have := h x (by simp)
    have := massL_le (xs := r) fun y hy => h y (List.mem_cons_of_mem _ hy)
    omega
theorem deepL_le {c : Nat} : ∀ {xs : List D}, (∀ x ∈ xs, deep x ≤ c) → deepL xs ≤ c
  | [], _ => by simp [deepL]
  | x :: r, h => by
    simp only [deepL]
    have := h x (by simp)
    have := deepL_le (xs := r) fun y hy => h y (List.mem_cons_of_mem _ hy)
    omega
structure SmL (m h : Nat) (xs : List D) : Prop where
  ok : okL xs
  m : massL xs ≤ m
  h : deepL xs ≤ h
structure Sm (m h : Nat) (d : D) : Prop where
  ok : okD d
  m : mass d ≤ m
  h : deep d ≤ h
section
variable {m m' h h' : Nat} {xs ys : List D} {x : D}
theorem SmL.nil : SmL m h [] := ⟨by simp [okL], by simp [massL], by simp [deepL]⟩
theorem SmL.cons (a : Sm m h x) (b : SmL m' h xs) : SmL (m + m') h (x :: xs) := ⟨by simp only [okL]; exact ⟨a.ok, b.ok⟩, by simp only [massL]; have := a.m; have := b.m; omega, by simp only [deepL]; have := a.h; have := b.h; omega⟩
theorem SmL.one (a : Sm m h x) : SmL m h [x] := (SmL.cons a (SmL.nil (m := 0)))
theorem SmL.app (a : SmL m h xs) (b : SmL m' h ys) : SmL (m + m') h (xs ++ ys) :=
  ⟨okL_iff.mpr fun x hx => (List.mem_append.mp hx).elim (okL_iff.mp a.ok x) (okL_iff.mp b.ok x), by rw [massL_append]; have := a.m; have := b.m; omega, by rw [deepL_append]; have := a.h; have := b.h; omega⟩
theorem SmL.le (a : SmL m h xs) (e1 : m ≤ m') (e2 : h ≤ h') : SmL m' h' xs := ⟨a.ok, Nat.le_trans a.m e1, Nat.le_trans a.h e2⟩
theorem Sm.le (a : Sm m h x) (e1 : m ≤ m') (e2 : h ≤ h') : Sm m' h' x := ⟨a.ok, Nat.le_trans a.m e1, Nat.le_trans a.h e2⟩
theorem SmL.take (n : Nat) (a : SmL m h xs) : SmL m h (xs.take n) := ⟨okL_iff.mpr fun x hx => okL_iff.mp a.ok x (List.mem_of_mem_take hx), Nat.le_trans (massL_take n xs) a.m, Nat.le_trans (deepL_take n xs) a.h⟩
theorem SmL.drop (n : Nat) (a : SmL m h xs) : SmL m h (xs.drop n) := ⟨okL_iff.mpr fun x hx => okL_iff.mp a.ok x (List.mem_of_mem_drop hx), Nat.le_trans (massL_drop n xs) a.m, Nat.le_trans (deepL_drop n xs) a.h⟩
theorem SmL.rep (n : Nat) (a : SmL m h xs) : SmL (n * m) h (List.replicate n xs).flatten := ⟨okL_iff.mpr fun x hx => by
    obtain ⟨l, hl, hx⟩ := List.mem_flatten.mp hx
    rw [(List.mem_replicate.mp hl).2] at hx
    exact okL_iff.mp a.ok x hx, by rw [massL_rep]; exact Nat.mul_le_mul_left _ a.m, Nat.le_trans (deepL_rep xs n) a.h⟩
theorem SmL.cut (lo hi : Option Int) (a : SmL m h xs) : SmL m h (cutD xs lo hi) := (a.drop _).take _
theorem SmL.mem (a : SmL m h xs) (hx : x ∈ xs) : Sm m h x := ⟨okL_iff.mp a.ok x hx, Nat.le_trans (mass_mem hx) a.m, Nat.le_trans (deep_mem hx) a.h⟩
theorem SmL.tp (a : SmL m h xs) : Sm (1 + m) (h + 1) (.tp xs) := ⟨by simp only [okD]; exact a.ok, by simp only [mass]; have := a.m; omega, by simp only [deep]; have := a.h; omega⟩
theorem SmL.ls (a : SmL m h xs) : Sm (1 + m) (h + 1) (.ls xs) := ⟨by simp only [okD]; exact a.ok, by simp only [mass]; have := a.m; omega, by simp only [deep]; have := a.h; omega⟩
theorem SmL.of (n : Nat) (hl : xs.length ≤ n) (a : ∀ x ∈ xs, Sm m h x) : SmL (n * m) h xs := ⟨okL_iff.mpr fun x hx => (a x hx).ok, Nat.le_trans (massL_le fun x hx => (a x hx).m) (Nat.mul_le_mul_right _ hl), deepL_le fun x hx => (a x hx).h⟩
theorem Sm.it {i : Int} (h1 : -(2 ^ 256) < i) (h2 : i < 2 ^ 256) : Sm 1 h (.it i) := ⟨by simp only [okD]; exact ⟨h1, h2⟩, by simp [mass], by simp [deep]⟩
theorem Sm.bl {b : Bool} : Sm 1 h (.bl b) := ⟨by simp only [okD], by simp [mass], by simp [deep]⟩
theorem Sm.non : Sm 1 h .non := ⟨by simp only [okD], by simp [mass], by simp [deep]⟩
theorem Sm.fit (a : Sm m h x) (h1 : m ≤ 50000) (h2 : h ≤ 150) : Fit x := ⟨a.ok, Nat.le_trans a.m h1, Nat.le_trans a.h h2⟩
end
def okIntB (i : Int) : Bool := decide (-(2 ^ 256) < i) && decide (i < 2 ^ 256)
def okStrB (s : Str) : Bool := s.cps.toList.all fun c => decide (c < 16 ^ 8)
def okKeyB : Key → Bool | .inl i => okIntB i | .inr s => okStrB s
mutual
def okB : D → Bool
  | .non => true
  | .bl _ => true
  | .it i => okIntB i
  | .st s => okStrB s
  | .tp xs => okBL xs
  | .ls xs => okBL xs
  | .dc kvs => okBK kvs
  | .bx _ _ => false
  | .vo _ _ => false
def okBL : List D → Bool
  | [] => true
  | x :: r => okB x && okBL r
def okBK : List (Key × D) → Bool
  | [] => true
  | (k, v) :: r => okKeyB k && (okB v && okBK r)
end
theorem okIntB_ok {i : Int} (h : okIntB i = true) : okInt i := by
  simp only [okIntB, Bool.and_eq_true, decide_eq_true_eq] at h
  exact h
theorem okStrB_ok {s : Str} (h : okStrB s = true) : okStr s := by
  simp only [okStrB, List.all_eq_true, decide_eq_true_eq] at h
  exact h
theorem okKeyB_ok {k : Key} (h : okKeyB k = true) : okKey k := by
  cases k with
  | inl i => exact okIntB_ok h
  | inr s => exact okStrB_ok h
mutual
theorem okB_ok : ∀ {d : D}, okB d = true → okD d
  | .non, _ => by simp only [okD]
  | .bl _, _ => by simp only [okD]
  | .it i, h => by simp only [okD]; simp only [okB] at h; exact okIntB_ok h
  | .st s, h => by simp only [okD]; simp only [okB] at h; exact okStrB_ok h
  | .tp xs, h => by simp only [okD]; simp only [okB] at h; exact okBL_ok h
  | .ls xs, h => by simp only [okD]; simp only [okB] at h; exact okBL_ok h
  | .dc kvs, h => by simp only [okD]; simp only [okB] at h; exact okBK_ok h
  | .bx _ _, h => by simp only [okB] at h; cases h
  | .vo _ _, h => by simp only [okB] at h; cases h
theorem okBL_ok : ∀ {xs : List D}, okBL xs = true → okL xs
  | [], _ => by simp only [okL]
  | x :: r, h => by
    simp only [okBL, Bool.and_eq_true] at h
    simp only [okL]; exact ⟨okB_ok h.1, okBL_ok h.2⟩
theorem okBK_ok : ∀ {xs : List (Key × D)}, okBK xs = true → okK xs
  | [], _ => by simp only [okK]
  | (k, v) :: r, h => by
    simp only [okBK, Bool.and_eq_true] at h
    simp only [okK]; exact ⟨okKeyB_ok h.1, okB_ok h.2.1, okBK_ok h.2.2⟩
end
theorem sm_dec {m h : Nat} {d : D} (e : (okB d && decide (mass d ≤ m) && decide (deep d ≤ h)) = true) : Sm m h d := by
  simp only [Bool.and_eq_true, decide_eq_true_eq] at e
  exact ⟨okB_ok e.1.1, e.1.2, e.2⟩
theorem szl0 : szOk ([] : List D).length := by show 0 ≤ sizeLine; decide
theorem szl1 {a : D} : szOk ([a] : List D).length := by show 1 ≤ sizeLine; decide
theorem szl2 {a b : D} : szOk ([a, b] : List D).length := by show 2 ≤ sizeLine; decide
theorem szl3 {a b c : D} : szOk ([a, b, c] : List D).length := by show 3 ≤ sizeLine; decide
theorem szl4 {a b c d : D} : szOk ([a, b, c, d] : List D).length := by show 4 ≤ sizeLine; decide
theorem szl5 {a b c d e : D} : szOk ([a, b, c, d, e] : List D).length := by show 5 ≤ sizeLine; decide
theorem szl6 {a b c d e f : D} : szOk ([a, b, c, d, e, f] : List D).length := by show 6 ≤ sizeLine; decide
theorem szl7 {a b c d e f g : D} : szOk ([a, b, c, d, e, f, g] : List D).length := by show 7 ≤ sizeLine; decide
theorem szl8 {a b c d e f g h : D} : szOk ([a, b, c, d, e, f, g, h] : List D).length := by show 8 ≤ sizeLine; decide
theorem cx_no {P : Program} {w : World} {o : List Env} {H : Hp} {s s' : Shared} {e : Value} (h : L2.CX P w o H s (fun _ _ _ => False) e s') : False := by
  obtain ⟨_, _, _, _, _, _, _, _, _, _, _, _, z⟩ := h
  exact z
theorem ends_call {P : Program} {w : World} {K : PySem.W.Frag} {mg mb : Str → Option Value} {k : Nat} {fa a : Addr} {fd : FuncData} {x : Str} {sp : Sp} {t : Shared} {vs : List Value} {ns : List Int}
    (KX : K.In t.heap) (nm : t.heap.Ns mainGlobals mg) (nb : t.heap.Ns builtinsNs mb) (bb : ∀ y : Str, y ≠ "__name__" → mb y = bootBuiltins y) (lim : t.heap.NoLimit) (sys : ∃ mm, t.heap.Ns sysModules mm) (gn : t.gens = #[])
    (ga : t.heap.get? a = some { cls := .type "list", data := .seq vs.toArray }) (hi : IntsAre vs ns) (hz : ns.length ≤ sizeLine) (hr : Room k callerA)
    (F : ∀ base : Heap, K.In base → base.Ns mainGlobals mg → (∃ o, base.get? sysModules = some o) → HFn P w K mg base k fa fd [x] sp) (bind : ∀ (s : Shared) (u : Value), BindsTo s fd ⟨[u], []⟩ [(x, u)])
    (law : ∀ H : Hp, SqL K H a (ns.map V.int) → sp [.ref a] H (fun v _ => v = .bl true) fun _ _ _ => False) :
    codeAny (model P w) callerA (.call (.ref fa) ⟨[.ref a], []⟩) (fun r s' => r = .ok (.ret (.bool true)) ∧ OldK t.heap s'.heap ∧ s'.os = t.os ∧ AllBare s'.gens) t := by
  have rv : Vals (ns.map V.int) vs := vals_ints hi
  have main : ∀ H : Hp, SqL K H a (ns.map V.int) → HOk P w H t.heap → (∀ b u, H b = some u → b = a ∧ ∃ o ys, u = .frz o (.lst ys)) → (∀ u, H a = some u → K.lookup a = none) →
      codeAny (model P w) callerA (.call (.ref fa) ⟨[.ref a], []⟩) (fun r s' => r = .ok (.ret (.bool true)) ∧ OldK t.heap s'.heap ∧ s'.os = t.os ∧ AllBare s'.gens) t := by
    intro H hS hok only noK
    have seen : ∀ {b : Addr} {o : Obj}, t.heap.get? b = some o → H b = none → (hidT t.heap H).get? b = some o := fun {b o} e n => hidT_get e n
    have isDict : ∀ {b : Addr} {o : Obj} {es : Array DictEntry} {ep : Nat}, t.heap.get? b = some o → o.data = .dict es ep → H b = none := fun {b o es ep} e d => none_of_keep fun u hu => by
      obtain ⟨rfl, _⟩ := only b u hu
      rw [ga] at e; cases e
      simp only [reduceCtorEq] at d
    have ns' : ∀ {b : Addr} {m : Str → Option Value}, t.heap.Ns b m → (hidT t.heap H).Ns b m := fun {b m} ⟨o, es, ep, e, d, r⟩ => ⟨o, es, ep, seen e (isDict e d), d, r⟩
    have kb : K.In (hidT t.heap H) := fun b o e => seen (KX b o e) (none_of_keep fun u hu => by
      obtain ⟨rfl, _⟩ := only b u hu
      rw [noK u hu] at e; cases e)
    have md : Mod K mg (hidT t.heap H) := ⟨kb, ns' nm, ⟨mb, ns' nb, bb⟩, by obtain ⟨mc, l1, l2⟩ := lim; exact ⟨mc, ns' l1, l2⟩⟩
    have sy : ∃ o, (hidT t.heap H).get? sysModules = some o := by
      obtain ⟨mm, q⟩ := sys
      obtain ⟨o, _, _, e, _⟩ := ns' q
      exact ⟨o, e⟩
    have en : Env0 P w K mg (hidT t.heap H) callerA [] t H := ⟨rfl, md, fun b o e => of_hidT e, Nat.le_of_eq (hidT_size _ _), trivial, fun b hb => (by simp [frs] at hb), hok, .of_eq gn⟩
    refine codeAny_mono ((F _ kb (ns' nm) sy).run callerA [] t H ⟨[.ref a], []⟩ [.ref a] [.ref a] _ _ hr rfl en (bind t (.ref a)) (.cons rfl .nil) (law H hS)) fun r s' h => ?_
    match r, h with
    | .error e, h => exact (cx_no h).elim
    | .ok .next, h => exact False.elim h
    | .ok .brk, h => exact False.elim h
    | .ok .cont, h => exact False.elim h
    | .ok (.ret u), h =>
      obtain ⟨v, H', os, bare, un, hok', ru, ev⟩ := h
      have ev' : v = .bl true := ev
      subst ev'
      have eu : u = Value.bool true := ru
      subst eu
      refine ⟨rfl, OldK.of_keep fun b o e => ?_, os, bare⟩
      cases hb : H b with
      | none => exact un.keep b o e hb (by simp [frs]) (by simp)
      | some u =>
        obtain ⟨rfl, ob, ys, rfl⟩ := only b u hb
        have z2 := un.frzs _ ob _ hb
        obtain ⟨p1, _⟩ := hok _ _ hb
        obtain ⟨p2, _⟩ := hok' _ _ z2
        rw [e] at p1; cases p1
        exact p2
  cases hk : K.lookup a with
  | some o =>
    have e := KX a o hk
    rw [ga] at e; cases e
    exact main (fun _ => none) (.inr ⟨_, vs.toArray, _, hk, rfl, rfl, rfl, by rw [List.size_toArray, hi.length]; exact hz, by simpa using rv⟩) (fun b u z => (by cases (show (none : Option HO) = some u from z))) (fun b u z => (by cases (show (none : Option HO) = some u from z))) fun u z => (by cases (show (none : Option HO) = some u from z))
  | none =>
    have at_ : ∀ b u, (fun b => if b = a then some (HO.frz { cls := .type "list", data := .seq vs.toArray } (.lst (ns.map V.int))) else none) b = some u → b = a ∧ u = .frz { cls := .type "list", data := .seq vs.toArray } (.lst (ns.map V.int)) := fun b u z => by
      by_cases hb : b = a
      · simp only [hb, if_true, Option.some.injEq] at z; exact ⟨hb, z.symm⟩
      · simp only [hb, if_false, reduceCtorEq] at z
    refine main (fun b => if b = a then some (.frz { cls := .type "list", data := .seq vs.toArray } (.lst (ns.map V.int))) else none) (.inl (.inr ⟨{ cls := .type "list", data := .seq vs.toArray }, if_pos rfl⟩)) (fun b u z => ?_) (fun b u z => ?_) fun u _ => hk
    · obtain ⟨rfl, rfl⟩ := at_ b u z
      exact ⟨ga, by rw [List.length_map]; exact hz, vs, _, rv, ga⟩
    · obtain ⟨rfl, rfl⟩ := at_ b u z
      exact ⟨rfl, _, _, rfl⟩
theorem walkD {l : PySem.W.OpenLaw} {n k : Nat} {q : Program} {loose : List Str} {XP : (Str → Option Value) → Heap → Prop} {YP : World → Heap → Prop} {d : DefRec} {K : Params → PySem.W.Frag} {sp : World → Sp} {x : Str}
    (hn : l.most = some n) (hz : n ≤ sizeLine) (hd : d.params.defaults = []) (hr : Room k callerA) (hY : ∀ (w : World) (h : Heap), YP w h → (K w.params).In h) (hq : importsNone q = true)
    (F : ∀ (w : World) (mg : Str → Option Value) (fa : Addr) (h : Heap), (K w.params).In h → h.Ns mainGlobals mg → mg d.name = some (.ref fa) →
      ∃ fd : FuncData, (∀ (s : Shared) (u : Value), BindsTo s fd ⟨[u], []⟩ [(x, u)]) ∧ ∀ base : Heap, (K w.params).In base → base.Ns mainGlobals mg → (∃ o, base.get? sysModules = some o) → HFn l.prog w (K w.params) mg base k fa fd [x] (sp w))
    (law : ∀ (w : World) (H : Hp) (a : Addr) (ns : List Int), ns.length ≤ n → SqL (K w.params) H a (ns.map V.int) → sp w [.ref a] H (fun v _ => v = .bl true) fun _ _ _ => False) :
    PySem.W.WalkO q loose XP YP l.row.toRowW d [] (fun f vs => PySem.call f vs) := by
  refine Att.attach_call hn hd fun w s₀ t mg mb fa o pm cd doc a vs ns G Y ho hd' hcd hmg hobj hints hlen hg => ?_
  obtain ⟨fd, hb, hF⟩ := F w mg fa _ (hY w _ Y) G.T.g hmg
  obtain ⟨mm, h1, _⟩ := (G.T.seer hq).mods
  exact ends_call (hY w _ Y) G.T.g G.T.b G.T.builtins G.T.nolimit ⟨mm, h1⟩ hg hobj hints (Nat.le_trans hlen hz) hr hF hb fun H hS => law w H a ns hlen hS
section
variable {X : Cx} {E : XK} {a b c : Expr}
end
section
variable {X : Cx} {E : XK} {k : Nat} {pos : Pos}
end
section
variable {prog : Program} {w : World} {A : Around} {E : Value → Shared → Prop} {s : Shared} {l : Addr} {its : List Value} {ns : List Int} {Q : Value → Shared → Prop}
end
section
variable {X : Cx} {E : XK} {pos : Pos}
end
section
variable {X : Cx} {E : XK} {k : Nat} {pos : Pos}
def dPar3 (i j l : Nat) (da : DA_) : DS_ := fun De env => da env (fun xs => match xs with | [x, y, z] => De.nx (((env.set i (.v x)).set j (.v y)).set l (.v z)) | _ => False) De.ex
theorem ds_par3 {i j l : Nat} {x y z : Str} {a b c : Expr} {da : DA_} {px py pz pt : Pos} {kt k2 pt2} (hc : X.calm = true) (hN : X.N.Nodup) (ha : DA X E [a, b, c] da)
    (hw : swappedStores [.Tuple [.Name x px, .Name y py, .Name z pz] kt pt] (.Tuple [a, b, c] k2 pt2) X.env = pure (some [x, y, z])) (hi : X.N[i]? = some x := by rfl) (hj : X.N[j]? = some y := by rfl) (hl : X.N[l]? = some z := by rfl) (hij : i ≠ j := by decide) (hil : i ≠ l := by decide) (hjl : j ≠ l := by decide)
    (hx : X.env.scope.names.lookup x = some .local := by rfl) (hy : X.env.scope.names.lookup y = some .local := by rfl) (hz : X.env.scope.names.lookup z = some .local := by rfl)
    (hs : swapsWithSole [.Tuple [.Name x px, .Name y py, .Name z pz] kt pt] (.Tuple [a, b, c] k2 pt2) pos.line X.env = pure false := by rfl) :
    DS X E (.Assign [.Tuple [.Name x px, .Name y py, .Name z pz] kt pt] (.Tuple [a, b, c] k2 pt2) pos) (dPar3 i j l da) := by
  obtain ⟨t, p, q⟩ := ha.run
  refine ⟨_, ps_par3 hc hN hi hj hl hij hil hjl hx hy hz p hw hs, fun B De Dn l S σ env H a r h => ?_⟩
  refine q _ S H σ env _ _ _ a.g r (l.xl a) h fun vs H1 S1 xs s1 g1 r1 h1 => ?_
  split at h1
  · cases r1 with
    | cons r1 r2 =>
      cases r2 with
      | cons r2 r3 =>
        cases r3 with
        | cons r3 r4 =>
          cases r4
          exact ⟨_, _, _, rfl, l.nx S1 _ _ H1 (a.step s1 g1) ((((r.step s1).put r1).put r2).put r3) h1⟩
  · exact h1.elim
end
section
variable {X : Cx} {E : XK} {pos : Pos} {a b c : Expr} {da db dc : DT_}
end
structure CalB (P : Program) (w : World) (K : PySem.W.Frag) (mg : Str → Option Value) (base : Heap) (k : Nat) (x : Str) (ps : List Str) (kw : Str) (sp : SpD) : Prop where
  ex : ∃ f fd, GFn P w K mg base k f fd (ps ++ [kw]) sp ∧ mg x = some (.ref f) ∧ PySem.W.keepIn K (.ref f) = true ∧ (∃ d : Value, RelV .non d ∧ Binds K fd (ps ++ [kw]) [d]) ∧
    ∀ (s : Shared) (us : List Value) (u : Value), K.In s.heap → us.length = ps.length → BindsTo s fd ⟨us, [(kw, u)]⟩ ((ps ++ [kw]).zip (us ++ [u]))
theorem CalB.mono {P : Program} {w : World} {K : PySem.W.Frag} {mg : Str → Option Value} {base : Heap} {j k : Nat} {x : Str} {ps : List Str} {kw : Str} {sp : SpD} (c : CalB P w K mg base j x ps kw sp) (h : j ≤ k) : CalB P w K mg base k x ps kw sp :=
  let ⟨f, fd, a, b⟩ := c.ex; ⟨f, fd, a.mono h, b⟩
section
variable {X : Cx} {E : XK} {k : Nat} {x kw : Str} {ps : List Str} {sp : SpD} {p pos kpos : Pos} {e e' : Expr} {es : List Expr} {u : DA_} {d : DT_}
end
section
variable {prog : Program} {w : World} {A : Around} {E : Value → Shared → Prop} {s : Shared} {l : Addr} {its : List Value} {ns : List Int} {Q : Value → Shared → Prop}
end
section
variable {X : Cx} {E : XK} {pos : Pos}
end
section
variable {X : Cx} {E : XK} {pos : Pos} {tg : Expr} {a b c : Expr}
end
def hd0 (ns : List Int) : Int := ns.headD 0
section
variable {prog : Program} {w : World} {A : Around} {E : Value → Shared → Prop} {s : Shared}
structure HeadsOk (h : Heap) (vs : List Value) : Prop where
  tup : ∀ v ∈ vs, ∃ ns, TS.TupInts h v ns ∧ ns ≠ []
  one : ∀ v ∈ vs, ∀ u ∈ vs, ∀ ns ms, TS.TupInts h v ns → TS.TupInts h u ms → hd0 ns = hd0 ms → ns = ms
theorem HeadsOk.keeps {h h' : Heap} {vs : List Value} (x : HeadsOk h vs) (k : ∀ b o, h.get? b = some o → o.cls = .type "tuple" → h'.get? b = some o) : HeadsOk h' vs := by
  refine ⟨fun v hv => ?_, fun v hv u hu ns ms h1 h2 e => ?_⟩
  · obtain ⟨ns, t, hn⟩ := x.tup v hv
    exact ⟨ns, t.keeps k, hn⟩
  · obtain ⟨ns0, t0, _⟩ := x.tup v hv
    obtain ⟨ms0, t1, _⟩ := x.tup u hu
    have e1 : ns = ns0 := h1.ints.symm.trans (t0.keeps k).ints
    have e2 : ms = ms0 := h2.ints.symm.trans (t1.keeps k).ints
    subst e1; subst e2
    exact x.one v hv u hu _ _ t0 t1 e
end
section
variable {P : Program} {w : World} {A : Around} {E : Value → Shared → Prop} {s : Shared}
end
section
variable {X : Cx}
end
section
variable {X : Cx} {E : XK} {pos : Pos}
end
section
variable {X : Cx} {E : XK} {pos : Pos}
end
section
variable {X : Cx} {E : XK} {pos : Pos}
end
section
variable {X : Cx} {E : XK} {pos : Pos}
end
end Dl
namespace PySem
namespace SlipX
open PySem.W PySem.Calls PyProof.Rows PySem.HandSPX
theorem one_size (v : Value) : [v].length ≤ sizeLine := by
  rw [sizeLine_eq]
  exact (by decide : 1 ≤ 16777216)
theorem ldC {M : Model} {s : Shared} {name : Str} {scope : Scope} {L a : Addr} {cd : Value} {m : Str → Option Value} {x : Str} {pos : Pos} {v : Value} {Q : Value → Shared → Prop} {A : Around} {E : Value → Shared → Prop} (hn : s.heap.Ns L m) (hv : m x = some v) (h : Q v s)
    (hk : scope.kind = .function := by rfl) (hl : (envOfC name scope L a cd).kindOf x = some .local := by rfl) (hd : (x == ("__debug__" : Str)) = false := by decide) :
    wpAny M A (eval (.Name x pos) (envOfC name scope L a cd)) Q E s := wpAny_Name (wpAny_loadName_local hk hl hn hv h) hd
structure InitEnd (fn : Str) (h h' : Heap) (x C dx t1 : Addr) (v : Value) : Prop where
  keep : ∀ b o, b ≠ x → h.get? b = some o → h'.get? b = some o
  obj : h'.get? x = some { cls := .ref C, dict := some dx, data := .fields #[.ref t1, .none, .none, .none, .bool false, .none] }
  dbig : h.objs.size ≤ dx
  dne : dx ≠ x
  ns : h'.Ns1 dx (fun y => if y = fn then some v else none)
structure OwnMade (fn : Str) (h h' : Heap) (e C d : Addr) (v : Value) : Prop where
  keep : ∀ b o, h.get? b = some o → h'.get? b = some o
  new : h.objs.size ≤ e
  obj : ∃ oe vs, h'.get? e = some oe ∧ oe.cls = .ref C ∧ oe.dict = some d ∧ oe.data = .fields vs ∧ vs[1]? = some .none
  dbig : h.objs.size ≤ d
  dne : d ≠ e
  ns : h'.Ns1 d (fun y => if y = fn then some v else none)
structure Txt (iA : Pos → Pos → Arguments) (iB : Pos → Pos → Pos → Pos → List Stmt) (iS : Scope) (fn qn : Str) (K : Frag) (C fI : Addr) : Prop where
  cls : ∃ nm q N bs bm sn sub ab col dd k0 k1 k2 k3 k5, K.lookup C = some (excClassObj nm q C N bs bm true sn sub ab col dd k0 k1 k2 k3 k5 "ValueError.__new__") ∧ refsVE bm = true
  sa : findIn K (.ref C) "__setattr__" = some (some (.builtin "object.__setattr__"))
  ga : findIn K (.ref C) "__getattribute__" = some (some (.builtin "BaseException.__getattribute__"))
  gg : findIn K (.ref C) "__getattr__" = some none
  noN : findIn K (.ref C) fn = some none
  iC : findIn K (.ref C) "__init__" = some (some (.ref fI))
  tC : typeIn K (.ref fI) = some (.type "function")
  kC : keepIn K (.ref C) = true
  exC : subIn K (.ref C) (.type "BaseException") = some true
  tyC : typeIn K (.ref C) = some (.type "type")
  hdC : hasDictIn K C = true
  fn_ : ∃ (oc : Value) (od : Option Addr) (doc pm : Value) (an : Option Addr) (cdv ct : Value) (osl : Array (Option Value)) (p1 p2 q1 q2 q3 q4 : Pos),
    K.lookup fI = some ⟨oc, od, .func (fnOf "__init__" qn (iA p1 p2) (iB q1 q2 q3 q4) iS .none .none doc pm an cdv ct), osl⟩ ∧ codeIn K cdv qn = true
def iA_house (p1 p2 : Pos) : Arguments := { posonlyargs := [], args := [{ arg := "self", annotation := none, pos := p1 }, { arg := "house", annotation := none, pos := p2 }], vararg := none, kwonlyargs := [], kw_defaults := [], kwarg := none, defaults := [] }
def iB_house (q1 q2 q3 q4 : Pos) : List Stmt := [.Assign [.Attribute (.Name "self" q1) "house" q2] (.Name "house" q3) q4]
def iS_house : Scope := { kind := .function, names := [(PySem.Str.ofString "self", .local), (PySem.Str.ofString "house", .local)], isGenerator := false, isCoroutine := false, more := [] }
abbrev Txt_house (qn : Str) (K : Frag) (C fI : Addr) : Prop := Txt iA_house iB_house iS_house "house" qn K C fI
section
variable {prog : Program} {w : World} {A : Around} {E : Value → Shared → Prop} {R : Result → Shared → Prop} {s : Shared} {K : Frag} {qn : Str} {C fI : Addr}
theorem init_house (T : Txt_house qn K C fI) {x t0 : Addr} {v : Value} (X : K.In s.heap) (hlim : s.heap.NoLimit) (hx : s.heap.get? x = some (excO C t0)) (hnx : K.lookup x = none) (hroom : A.depth < recursionLimit)
    (hq : ∀ h' tk dx, InitEnd "house" s.heap h' x C dx t0 v → R (.ok (.ret .none)) { s with heap := h', toks := tk }) :
    codeAny (model prog w) A (.call (.ref fI) ⟨[.ref x, v], []⟩) R s := by
  obtain ⟨oc, od, doc, pm, an, cdv, ct, osl, p1, p2, q1, q2, q3, q4, ho, hcd⟩ := T.fn_
  obtain ⟨nm, q, N, bs, bm, sn, sub, ab, col, dd, k0, k1, k2, k3, k5, hC, hbm⟩ := T.cls
  have hcl : clsIn K C = some { name := nm, bases := bs, mro := .ref C :: bm, ns := N, qualname := q, hasDict := true, slotNames := sn, subclasses := sub, abstract := ab, collection := col, hasDel := false } := by unfold clsIn; rw [hC] <;> rfl
  refine Att.call_fn (binds := [("self", .ref x), ("house", v)]) X hlim ho hcd hroom (BindsTo.of_eq (by first | rfl | with_unfolding_all rfl)) (by first | rfl | decide | with_unfolding_all rfl) (fun s₁ IC => ?_) rfl rfl rfl
  obtain ⟨h₁, tk₁, rfl⟩ := IC.toInCall.same
  have k : ∀ b o, s.heap.get? b = some o → h₁.get? b = some o := IC.toInCall.keep
  have hn := IC.toInCall.ns
  have X₁ : K.In h₁ := X.keeps k
  have hx₁ := k _ _ hx
  show wpAny _ _ (execs _ _) _ _ _
  refine wpAny_execs_cons (plainObj_wpAny_Assign_Attribute ?_)
  refine ldC (v := v) hn (by first | rfl | with_unfolding_all rfl | kernel_rfl) (ldC (v := .ref x) hn (by first | rfl | with_unfolding_all rfl | kernel_rfl) ?_)
  refine set_plain X₁ (ox := excO C t0) (od := none) ⟨hx₁, rfl, rfl, trivial⟩ T.sa ?_
  refine exc_osa X₁ hx₁ hcl (show refsVE (.ref C :: bm) = true from hbm) rfl T.noN (fun h₃ tk₃ dx k₃ dn dne hx₃ hn₃ => ?_)
  show wpAny _ _ (execs _ _) _ _ _
  have z : s.heap.objs.size < h₁.objs.size := hn.lt
  exact wpAny_execs_nil (hq h₃ tk₃ dx ⟨fun b o hb e => k₃ b o hb (k b o e), hx₃, Nat.le_of_lt (Nat.lt_of_lt_of_le z dn), dne, hn₃⟩)
theorem made_house (T : Txt_house qn K C fI) {v : Value} (X : K.In s.heap) (hlim : s.heap.NoLimit) (hroom : A.depth + 1 < recursionLimit)
    (hq : ∀ h' tk e d, OwnMade "house" s.heap h' e C d v → R (.ok (.ret (.ref e))) { s with heap := h', toks := tk }) :
    codeAny (model prog w) A (.call (.ref C) ⟨[v], []⟩) R s := by
  obtain ⟨nm, q, N, bs, bm, sn, sub, ab, col, dd, k0, k1, k2, k3, k5, hC, hbm⟩ := T.cls
  obtain ⟨hp, g, dr, tk, os⟩ := s
  have k : ∀ b o, hp.get? b = some o → ((hp.push (kdv_tup [v])).push (excO C hp.objs.size)).get? b = some o := fun b o e => Heap.get?_push_of_some _ (Heap.get?_push_of_some _ e)
  have hget : ((hp.push (kdv_tup [v])).push (excO C hp.objs.size)).get? (hp.objs.size + 1) = some (excO C hp.objs.size) := by heap_get
  have hnx : K.lookup (hp.objs.size + 1) = none := by
    cases e : K.lookup (hp.objs.size + 1) with
    | none => rfl
    | some o =>
      have z : hp.get? (hp.objs.size + 1) = some o := X _ _ e
      exact absurd (Nat.lt_of_succ_lt (Heap.lt_size z)) (Nat.lt_irrefl _)
  refine call_own F.excBase_ValueError (fun X => refsVE_contains X bm hbm) (X _ _ hC) (looks_findIn X T.iC) (fun self => bind_fn X self T.tC) (one_size v) ?_
  refine init_house (s := ⟨(hp.push (kdv_tup [v])).push (excO C hp.objs.size), g, dr, tk, os⟩) T (X.keeps k) (hlim.keeps k) hget hnx ?_ fun h' tk' dx ⟨k', hx, dn, dne, hns⟩ => ?_
  · show A.depth + 1 < recursionLimit
    exact hroom
  · have old : ∀ b o, hp.get? b = some o → h'.get? b = some o := fun b o e => k' b o (Nat.ne_of_lt (Nat.lt_succ_of_lt (Heap.lt_size e))) (k b o e)
    have z : hp.objs.size + 1 + 1 ≤ dx := by
      first
        | (simpa only [Heap.size_push] using dn)
        | exact dn
        | (have q := dn; rw [Heap.size_push, Heap.size_push] at q; exact q)
    exact ⟨rfl, hq h' tk' (hp.objs.size + 1) dx ⟨old, Nat.le_succ _, ⟨_, _, hx, rfl, rfl, rfl, rfl⟩, Nat.le_trans (Nat.le_trans (Nat.le_succ _) (Nat.le_succ _)) z, dne, hns⟩⟩
end
def iA_amount (p1 p2 : Pos) : Arguments := { posonlyargs := [], args := [{ arg := "self", annotation := none, pos := p1 }, { arg := "amount", annotation := none, pos := p2 }], vararg := none, kwonlyargs := [], kw_defaults := [], kwarg := none, defaults := [] }
def iB_amount (q1 q2 q3 q4 : Pos) : List Stmt := [.Assign [.Attribute (.Name "self" q1) "amount" q2] (.Name "amount" q3) q4]
def iS_amount : Scope := { kind := .function, names := [(PySem.Str.ofString "self", .local), (PySem.Str.ofString "amount", .local)], isGenerator := false, isCoroutine := false, more := [] }
abbrev Txt_amount (qn : Str) (K : Frag) (C fI : Addr) : Prop := Txt iA_amount iB_amount iS_amount "amount" qn K C fI
section
variable {prog : Program} {w : World} {A : Around} {E : Value → Shared → Prop} {R : Result → Shared → Prop} {s : Shared} {K : Frag} {qn : Str} {C fI : Addr}
theorem init_amount (T : Txt_amount qn K C fI) {x t0 : Addr} {v : Value} (X : K.In s.heap) (hlim : s.heap.NoLimit) (hx : s.heap.get? x = some (excO C t0)) (hnx : K.lookup x = none) (hroom : A.depth < recursionLimit)
    (hq : ∀ h' tk dx, InitEnd "amount" s.heap h' x C dx t0 v → R (.ok (.ret .none)) { s with heap := h', toks := tk }) :
    codeAny (model prog w) A (.call (.ref fI) ⟨[.ref x, v], []⟩) R s := by
  obtain ⟨oc, od, doc, pm, an, cdv, ct, osl, p1, p2, q1, q2, q3, q4, ho, hcd⟩ := T.fn_
  obtain ⟨nm, q, N, bs, bm, sn, sub, ab, col, dd, k0, k1, k2, k3, k5, hC, hbm⟩ := T.cls
  have hcl : clsIn K C = some { name := nm, bases := bs, mro := .ref C :: bm, ns := N, qualname := q, hasDict := true, slotNames := sn, subclasses := sub, abstract := ab, collection := col, hasDel := false } := by unfold clsIn; rw [hC] <;> rfl
  refine Att.call_fn (binds := [("self", .ref x), ("amount", v)]) X hlim ho hcd hroom (BindsTo.of_eq (by first | rfl | with_unfolding_all rfl)) (by first | rfl | decide | with_unfolding_all rfl) (fun s₁ IC => ?_) rfl rfl rfl
  obtain ⟨h₁, tk₁, rfl⟩ := IC.toInCall.same
  have k : ∀ b o, s.heap.get? b = some o → h₁.get? b = some o := IC.toInCall.keep
  have hn := IC.toInCall.ns
  have X₁ : K.In h₁ := X.keeps k
  have hx₁ := k _ _ hx
  show wpAny _ _ (execs _ _) _ _ _
  refine wpAny_execs_cons (plainObj_wpAny_Assign_Attribute ?_)
  refine ldC (v := v) hn (by first | rfl | with_unfolding_all rfl | kernel_rfl) (ldC (v := .ref x) hn (by first | rfl | with_unfolding_all rfl | kernel_rfl) ?_)
  refine set_plain X₁ (ox := excO C t0) (od := none) ⟨hx₁, rfl, rfl, trivial⟩ T.sa ?_
  refine exc_osa X₁ hx₁ hcl (show refsVE (.ref C :: bm) = true from hbm) rfl T.noN (fun h₃ tk₃ dx k₃ dn dne hx₃ hn₃ => ?_)
  show wpAny _ _ (execs _ _) _ _ _
  have z : s.heap.objs.size < h₁.objs.size := hn.lt
  exact wpAny_execs_nil (hq h₃ tk₃ dx ⟨fun b o hb e => k₃ b o hb (k b o e), hx₃, Nat.le_of_lt (Nat.lt_of_lt_of_le z dn), dne, hn₃⟩)
theorem made_amount (T : Txt_amount qn K C fI) {v : Value} (X : K.In s.heap) (hlim : s.heap.NoLimit) (hroom : A.depth + 1 < recursionLimit)
    (hq : ∀ h' tk e d, OwnMade "amount" s.heap h' e C d v → R (.ok (.ret (.ref e))) { s with heap := h', toks := tk }) :
    codeAny (model prog w) A (.call (.ref C) ⟨[v], []⟩) R s := by
  obtain ⟨nm, q, N, bs, bm, sn, sub, ab, col, dd, k0, k1, k2, k3, k5, hC, hbm⟩ := T.cls
  obtain ⟨hp, g, dr, tk, os⟩ := s
  have k : ∀ b o, hp.get? b = some o → ((hp.push (kdv_tup [v])).push (excO C hp.objs.size)).get? b = some o := fun b o e => Heap.get?_push_of_some _ (Heap.get?_push_of_some _ e)
  have hget : ((hp.push (kdv_tup [v])).push (excO C hp.objs.size)).get? (hp.objs.size + 1) = some (excO C hp.objs.size) := by heap_get
  have hnx : K.lookup (hp.objs.size + 1) = none := by
    cases e : K.lookup (hp.objs.size + 1) with
    | none => rfl
    | some o =>
      have z : hp.get? (hp.objs.size + 1) = some o := X _ _ e
      exact absurd (Nat.lt_of_succ_lt (Heap.lt_size z)) (Nat.lt_irrefl _)
  refine call_own F.excBase_ValueError (fun X => refsVE_contains X bm hbm) (X _ _ hC) (looks_findIn X T.iC) (fun self => bind_fn X self T.tC) (one_size v) ?_
  refine init_amount (s := ⟨(hp.push (kdv_tup [v])).push (excO C hp.objs.size), g, dr, tk, os⟩) T (X.keeps k) (hlim.keeps k) hget hnx ?_ fun h' tk' dx ⟨k', hx, dn, dne, hns⟩ => ?_
  · show A.depth + 1 < recursionLimit
    exact hroom
  · have old : ∀ b o, hp.get? b = some o → h'.get? b = some o := fun b o e => k' b o (Nat.ne_of_lt (Nat.lt_succ_of_lt (Heap.lt_size e))) (k b o e)
    have z : hp.objs.size + 1 + 1 ≤ dx := by
      first
        | (simpa only [Heap.size_push] using dn)
        | exact dn
        | (have q := dn; rw [Heap.size_push, Heap.size_push] at q; exact q)
    exact ⟨rfl, hq h' tk' (hp.objs.size + 1) dx ⟨old, Nat.le_succ _, ⟨_, _, hx, rfl, rfl, rfl, rfl⟩, Nat.le_trans (Nat.le_trans (Nat.le_succ _) (Nat.le_succ _)) z, dne, hns⟩⟩
end
def iA_limit (p1 p2 : Pos) : Arguments := { posonlyargs := [], args := [{ arg := "self", annotation := none, pos := p1 }, { arg := "limit", annotation := none, pos := p2 }], vararg := none, kwonlyargs := [], kw_defaults := [], kwarg := none, defaults := [] }
def iB_limit (q1 q2 q3 q4 : Pos) : List Stmt := [.Assign [.Attribute (.Name "self" q1) "limit" q2] (.Name "limit" q3) q4]
def iS_limit : Scope := { kind := .function, names := [(PySem.Str.ofString "self", .local), (PySem.Str.ofString "limit", .local)], isGenerator := false, isCoroutine := false, more := [] }
abbrev Txt_limit (qn : Str) (K : Frag) (C fI : Addr) : Prop := Txt iA_limit iB_limit iS_limit "limit" qn K C fI
section
variable {prog : Program} {w : World} {A : Around} {E : Value → Shared → Prop} {R : Result → Shared → Prop} {s : Shared} {K : Frag} {qn : Str} {C fI : Addr}
theorem init_limit (T : Txt_limit qn K C fI) {x t0 : Addr} {v : Value} (X : K.In s.heap) (hlim : s.heap.NoLimit) (hx : s.heap.get? x = some (excO C t0)) (hnx : K.lookup x = none) (hroom : A.depth < recursionLimit)
    (hq : ∀ h' tk dx, InitEnd "limit" s.heap h' x C dx t0 v → R (.ok (.ret .none)) { s with heap := h', toks := tk }) :
    codeAny (model prog w) A (.call (.ref fI) ⟨[.ref x, v], []⟩) R s := by
  obtain ⟨oc, od, doc, pm, an, cdv, ct, osl, p1, p2, q1, q2, q3, q4, ho, hcd⟩ := T.fn_
  obtain ⟨nm, q, N, bs, bm, sn, sub, ab, col, dd, k0, k1, k2, k3, k5, hC, hbm⟩ := T.cls
  have hcl : clsIn K C = some { name := nm, bases := bs, mro := .ref C :: bm, ns := N, qualname := q, hasDict := true, slotNames := sn, subclasses := sub, abstract := ab, collection := col, hasDel := false } := by unfold clsIn; rw [hC] <;> rfl
  refine Att.call_fn (binds := [("self", .ref x), ("limit", v)]) X hlim ho hcd hroom (BindsTo.of_eq (by first | rfl | with_unfolding_all rfl)) (by first | rfl | decide | with_unfolding_all rfl) (fun s₁ IC => ?_) rfl rfl rfl
  obtain ⟨h₁, tk₁, rfl⟩ := IC.toInCall.same
  have k : ∀ b o, s.heap.get? b = some o → h₁.get? b = some o := IC.toInCall.keep
  have hn := IC.toInCall.ns
  have X₁ : K.In h₁ := X.keeps k
  have hx₁ := k _ _ hx
  show wpAny _ _ (execs _ _) _ _ _
  refine wpAny_execs_cons (plainObj_wpAny_Assign_Attribute ?_)
  refine ldC (v := v) hn (by first | rfl | with_unfolding_all rfl | kernel_rfl) (ldC (v := .ref x) hn (by first | rfl | with_unfolding_all rfl | kernel_rfl) ?_)
  refine set_plain X₁ (ox := excO C t0) (od := none) ⟨hx₁, rfl, rfl, trivial⟩ T.sa ?_
  refine exc_osa X₁ hx₁ hcl (show refsVE (.ref C :: bm) = true from hbm) rfl T.noN (fun h₃ tk₃ dx k₃ dn dne hx₃ hn₃ => ?_)
  show wpAny _ _ (execs _ _) _ _ _
  have z : s.heap.objs.size < h₁.objs.size := hn.lt
  exact wpAny_execs_nil (hq h₃ tk₃ dx ⟨fun b o hb e => k₃ b o hb (k b o e), hx₃, Nat.le_of_lt (Nat.lt_of_lt_of_le z dn), dne, hn₃⟩)
theorem made_limit (T : Txt_limit qn K C fI) {v : Value} (X : K.In s.heap) (hlim : s.heap.NoLimit) (hroom : A.depth + 1 < recursionLimit)
    (hq : ∀ h' tk e d, OwnMade "limit" s.heap h' e C d v → R (.ok (.ret (.ref e))) { s with heap := h', toks := tk }) :
    codeAny (model prog w) A (.call (.ref C) ⟨[v], []⟩) R s := by
  obtain ⟨nm, q, N, bs, bm, sn, sub, ab, col, dd, k0, k1, k2, k3, k5, hC, hbm⟩ := T.cls
  obtain ⟨hp, g, dr, tk, os⟩ := s
  have k : ∀ b o, hp.get? b = some o → ((hp.push (kdv_tup [v])).push (excO C hp.objs.size)).get? b = some o := fun b o e => Heap.get?_push_of_some _ (Heap.get?_push_of_some _ e)
  have hget : ((hp.push (kdv_tup [v])).push (excO C hp.objs.size)).get? (hp.objs.size + 1) = some (excO C hp.objs.size) := by heap_get
  have hnx : K.lookup (hp.objs.size + 1) = none := by
    cases e : K.lookup (hp.objs.size + 1) with
    | none => rfl
    | some o =>
      have z : hp.get? (hp.objs.size + 1) = some o := X _ _ e
      exact absurd (Nat.lt_of_succ_lt (Heap.lt_size z)) (Nat.lt_irrefl _)
  refine call_own F.excBase_ValueError (fun X => refsVE_contains X bm hbm) (X _ _ hC) (looks_findIn X T.iC) (fun self => bind_fn X self T.tC) (one_size v) ?_
  refine init_limit (s := ⟨(hp.push (kdv_tup [v])).push (excO C hp.objs.size), g, dr, tk, os⟩) T (X.keeps k) (hlim.keeps k) hget hnx ?_ fun h' tk' dx ⟨k', hx, dn, dne, hns⟩ => ?_
  · show A.depth + 1 < recursionLimit
    exact hroom
  · have old : ∀ b o, hp.get? b = some o → h'.get? b = some o := fun b o e => k' b o (Nat.ne_of_lt (Nat.lt_succ_of_lt (Heap.lt_size e))) (k b o e)
    have z : hp.objs.size + 1 + 1 ≤ dx := by
      first
        | (simpa only [Heap.size_push] using dn)
        | exact dn
        | (have q := dn; rw [Heap.size_push, Heap.size_push] at q; exact q)
    exact ⟨rfl, hq h' tk' (hp.objs.size + 1) dx ⟨old, Nat.le_succ _, ⟨_, _, hx, rfl, rfl, rfl, rfl⟩, Nat.le_trans (Nat.le_trans (Nat.le_succ _) (Nat.le_succ _)) z, dne, hns⟩⟩
end
def iA_error (p1 p2 : Pos) : Arguments := { posonlyargs := [], args := [{ arg := "self", annotation := none, pos := p1 }, { arg := "error", annotation := none, pos := p2 }], vararg := none, kwonlyargs := [], kw_defaults := [], kwarg := none, defaults := [] }
def iB_error (q1 q2 q3 q4 : Pos) : List Stmt := [.Assign [.Attribute (.Name "self" q1) "error" q2] (.Name "error" q3) q4]
def iS_error : Scope := { kind := .function, names := [(PySem.Str.ofString "self", .local), (PySem.Str.ofString "error", .local)], isGenerator := false, isCoroutine := false, more := [] }
abbrev Txt_error (qn : Str) (K : Frag) (C fI : Addr) : Prop := Txt iA_error iB_error iS_error "error" qn K C fI
section
variable {prog : Program} {w : World} {A : Around} {E : Value → Shared → Prop} {R : Result → Shared → Prop} {s : Shared} {K : Frag} {qn : Str} {C fI : Addr}
theorem init_error (T : Txt_error qn K C fI) {x t0 : Addr} {v : Value} (X : K.In s.heap) (hlim : s.heap.NoLimit) (hx : s.heap.get? x = some (excO C t0)) (hnx : K.lookup x = none) (hroom : A.depth < recursionLimit)
    (hq : ∀ h' tk dx, InitEnd "error" s.heap h' x C dx t0 v → R (.ok (.ret .none)) { s with heap := h', toks := tk }) :
    codeAny (model prog w) A (.call (.ref fI) ⟨[.ref x, v], []⟩) R s := by
  obtain ⟨oc, od, doc, pm, an, cdv, ct, osl, p1, p2, q1, q2, q3, q4, ho, hcd⟩ := T.fn_
  obtain ⟨nm, q, N, bs, bm, sn, sub, ab, col, dd, k0, k1, k2, k3, k5, hC, hbm⟩ := T.cls
  have hcl : clsIn K C = some { name := nm, bases := bs, mro := .ref C :: bm, ns := N, qualname := q, hasDict := true, slotNames := sn, subclasses := sub, abstract := ab, collection := col, hasDel := false } := by unfold clsIn; rw [hC] <;> rfl
  refine Att.call_fn (binds := [("self", .ref x), ("error", v)]) X hlim ho hcd hroom (BindsTo.of_eq (by first | rfl | with_unfolding_all rfl)) (by first | rfl | decide | with_unfolding_all rfl) (fun s₁ IC => ?_) rfl rfl rfl
  obtain ⟨h₁, tk₁, rfl⟩ := IC.toInCall.same
  have k : ∀ b o, s.heap.get? b = some o → h₁.get? b = some o := IC.toInCall.keep
  have hn := IC.toInCall.ns
  have X₁ : K.In h₁ := X.keeps k
  have hx₁ := k _ _ hx
  show wpAny _ _ (execs _ _) _ _ _
  refine wpAny_execs_cons (plainObj_wpAny_Assign_Attribute ?_)
  refine ldC (v := v) hn (by first | rfl | with_unfolding_all rfl | kernel_rfl) (ldC (v := .ref x) hn (by first | rfl | with_unfolding_all rfl | kernel_rfl) ?_)
  refine set_plain X₁ (ox := excO C t0) (od := none) ⟨hx₁, rfl, rfl, trivial⟩ T.sa ?_
  refine exc_osa X₁ hx₁ hcl (show refsVE (.ref C :: bm) = true from hbm) rfl T.noN (fun h₃ tk₃ dx k₃ dn dne hx₃ hn₃ => ?_)
  show wpAny _ _ (execs _ _) _ _ _
  have z : s.heap.objs.size < h₁.objs.size := hn.lt
  exact wpAny_execs_nil (hq h₃ tk₃ dx ⟨fun b o hb e => k₃ b o hb (k b o e), hx₃, Nat.le_of_lt (Nat.lt_of_lt_of_le z dn), dne, hn₃⟩)
theorem made_error (T : Txt_error qn K C fI) {v : Value} (X : K.In s.heap) (hlim : s.heap.NoLimit) (hroom : A.depth + 1 < recursionLimit)
    (hq : ∀ h' tk e d, OwnMade "error" s.heap h' e C d v → R (.ok (.ret (.ref e))) { s with heap := h', toks := tk }) :
    codeAny (model prog w) A (.call (.ref C) ⟨[v], []⟩) R s := by
  obtain ⟨nm, q, N, bs, bm, sn, sub, ab, col, dd, k0, k1, k2, k3, k5, hC, hbm⟩ := T.cls
  obtain ⟨hp, g, dr, tk, os⟩ := s
  have k : ∀ b o, hp.get? b = some o → ((hp.push (kdv_tup [v])).push (excO C hp.objs.size)).get? b = some o := fun b o e => Heap.get?_push_of_some _ (Heap.get?_push_of_some _ e)
  have hget : ((hp.push (kdv_tup [v])).push (excO C hp.objs.size)).get? (hp.objs.size + 1) = some (excO C hp.objs.size) := by heap_get
  have hnx : K.lookup (hp.objs.size + 1) = none := by
    cases e : K.lookup (hp.objs.size + 1) with
    | none => rfl
    | some o =>
      have z : hp.get? (hp.objs.size + 1) = some o := X _ _ e
      exact absurd (Nat.lt_of_succ_lt (Heap.lt_size z)) (Nat.lt_irrefl _)
  refine call_own F.excBase_ValueError (fun X => refsVE_contains X bm hbm) (X _ _ hC) (looks_findIn X T.iC) (fun self => bind_fn X self T.tC) (one_size v) ?_
  refine init_error (s := ⟨(hp.push (kdv_tup [v])).push (excO C hp.objs.size), g, dr, tk, os⟩) T (X.keeps k) (hlim.keeps k) hget hnx ?_ fun h' tk' dx ⟨k', hx, dn, dne, hns⟩ => ?_
  · show A.depth + 1 < recursionLimit
    exact hroom
  · have old : ∀ b o, hp.get? b = some o → h'.get? b = some o := fun b o e => k' b o (Nat.ne_of_lt (Nat.lt_succ_of_lt (Heap.lt_size e))) (k b o e)
    have z : hp.objs.size + 1 + 1 ≤ dx := by
      first
        | (simpa only [Heap.size_push] using dn)
        | exact dn
        | (have q := dn; rw [Heap.size_push, Heap.size_push] at q; exact q)
    exact ⟨rfl, hq h' tk' (hp.objs.size + 1) dx ⟨old, Nat.le_succ _, ⟨_, _, hx, rfl, rfl, rfl, rfl⟩, Nat.le_trans (Nat.le_trans (Nat.le_succ _) (Nat.le_succ _)) z, dne, hns⟩⟩
end
def iA_index (p1 p2 : Pos) : Arguments := { posonlyargs := [], args := [{ arg := "self", annotation := none, pos := p1 }, { arg := "index", annotation := none, pos := p2 }], vararg := none, kwonlyargs := [], kw_defaults := [], kwarg := none, defaults := [] }
def iB_index (q1 q2 q3 q4 : Pos) : List Stmt := [.Assign [.Attribute (.Name "self" q1) "index" q2] (.Name "index" q3) q4]
def iS_index : Scope := { kind := .function, names := [(PySem.Str.ofString "self", .local), (PySem.Str.ofString "index", .local)], isGenerator := false, isCoroutine := false, more := [] }
abbrev Txt_index (qn : Str) (K : Frag) (C fI : Addr) : Prop := Txt iA_index iB_index iS_index "index" qn K C fI
section
variable {prog : Program} {w : World} {A : Around} {E : Value → Shared → Prop} {R : Result → Shared → Prop} {s : Shared} {K : Frag} {qn : Str} {C fI : Addr}
theorem init_index (T : Txt_index qn K C fI) {x t0 : Addr} {v : Value} (X : K.In s.heap) (hlim : s.heap.NoLimit) (hx : s.heap.get? x = some (excO C t0)) (hnx : K.lookup x = none) (hroom : A.depth < recursionLimit)
    (hq : ∀ h' tk dx, InitEnd "index" s.heap h' x C dx t0 v → R (.ok (.ret .none)) { s with heap := h', toks := tk }) :
    codeAny (model prog w) A (.call (.ref fI) ⟨[.ref x, v], []⟩) R s := by
  obtain ⟨oc, od, doc, pm, an, cdv, ct, osl, p1, p2, q1, q2, q3, q4, ho, hcd⟩ := T.fn_
  obtain ⟨nm, q, N, bs, bm, sn, sub, ab, col, dd, k0, k1, k2, k3, k5, hC, hbm⟩ := T.cls
  have hcl : clsIn K C = some { name := nm, bases := bs, mro := .ref C :: bm, ns := N, qualname := q, hasDict := true, slotNames := sn, subclasses := sub, abstract := ab, collection := col, hasDel := false } := by unfold clsIn; rw [hC] <;> rfl
  refine Att.call_fn (binds := [("self", .ref x), ("index", v)]) X hlim ho hcd hroom (BindsTo.of_eq (by first | rfl | with_unfolding_all rfl)) (by first | rfl | decide | with_unfolding_all rfl) (fun s₁ IC => ?_) rfl rfl rfl
  obtain ⟨h₁, tk₁, rfl⟩ := IC.toInCall.same
  have k : ∀ b o, s.heap.get? b = some o → h₁.get? b = some o := IC.toInCall.keep
  have hn := IC.toInCall.ns
  have X₁ : K.In h₁ := X.keeps k
  have hx₁ := k _ _ hx
  show wpAny _ _ (execs _ _) _ _ _
  refine wpAny_execs_cons (plainObj_wpAny_Assign_Attribute ?_)
  refine ldC (v := v) hn (by first | rfl | with_unfolding_all rfl | kernel_rfl) (ldC (v := .ref x) hn (by first | rfl | with_unfolding_all rfl | kernel_rfl) ?_)
  refine set_plain X₁ (ox := excO C t0) (od := none) ⟨hx₁, rfl, rfl, trivial⟩ T.sa ?_
  refine exc_osa X₁ hx₁ hcl (show refsVE (.ref C :: bm) = true from hbm) rfl T.noN (fun h₃ tk₃ dx k₃ dn dne hx₃ hn₃ => ?_)
  show wpAny _ _ (execs _ _) _ _ _
  have z : s.heap.objs.size < h₁.objs.size := hn.lt
  exact wpAny_execs_nil (hq h₃ tk₃ dx ⟨fun b o hb e => k₃ b o hb (k b o e), hx₃, Nat.le_of_lt (Nat.lt_of_lt_of_le z dn), dne, hn₃⟩)
theorem made_index (T : Txt_index qn K C fI) {v : Value} (X : K.In s.heap) (hlim : s.heap.NoLimit) (hroom : A.depth + 1 < recursionLimit)
    (hq : ∀ h' tk e d, OwnMade "index" s.heap h' e C d v → R (.ok (.ret (.ref e))) { s with heap := h', toks := tk }) :
    codeAny (model prog w) A (.call (.ref C) ⟨[v], []⟩) R s := by
  obtain ⟨nm, q, N, bs, bm, sn, sub, ab, col, dd, k0, k1, k2, k3, k5, hC, hbm⟩ := T.cls
  obtain ⟨hp, g, dr, tk, os⟩ := s
  have k : ∀ b o, hp.get? b = some o → ((hp.push (kdv_tup [v])).push (excO C hp.objs.size)).get? b = some o := fun b o e => Heap.get?_push_of_some _ (Heap.get?_push_of_some _ e)
  have hget : ((hp.push (kdv_tup [v])).push (excO C hp.objs.size)).get? (hp.objs.size + 1) = some (excO C hp.objs.size) := by heap_get
  have hnx : K.lookup (hp.objs.size + 1) = none := by
    cases e : K.lookup (hp.objs.size + 1) with
    | none => rfl
    | some o =>
      have z : hp.get? (hp.objs.size + 1) = some o := X _ _ e
      exact absurd (Nat.lt_of_succ_lt (Heap.lt_size z)) (Nat.lt_irrefl _)
  refine call_own F.excBase_ValueError (fun X => refsVE_contains X bm hbm) (X _ _ hC) (looks_findIn X T.iC) (fun self => bind_fn X self T.tC) (one_size v) ?_
  refine init_index (s := ⟨(hp.push (kdv_tup [v])).push (excO C hp.objs.size), g, dr, tk, os⟩) T (X.keeps k) (hlim.keeps k) hget hnx ?_ fun h' tk' dx ⟨k', hx, dn, dne, hns⟩ => ?_
  · show A.depth + 1 < recursionLimit
    exact hroom
  · have old : ∀ b o, hp.get? b = some o → h'.get? b = some o := fun b o e => k' b o (Nat.ne_of_lt (Nat.lt_succ_of_lt (Heap.lt_size e))) (k b o e)
    have z : hp.objs.size + 1 + 1 ≤ dx := by
      first
        | (simpa only [Heap.size_push] using dn)
        | exact dn
        | (have q := dn; rw [Heap.size_push, Heap.size_push] at q; exact q)
    exact ⟨rfl, hq h' tk' (hp.objs.size + 1) dx ⟨old, Nat.le_succ _, ⟨_, _, hx, rfl, rfl, rfl, rfl⟩, Nat.le_trans (Nat.le_trans (Nat.le_succ _) (Nat.le_succ _)) z, dne, hns⟩⟩
end
def iA_version (p1 p2 : Pos) : Arguments := { posonlyargs := [], args := [{ arg := "self", annotation := none, pos := p1 }, { arg := "version", annotation := none, pos := p2 }], vararg := none, kwonlyargs := [], kw_defaults := [], kwarg := none, defaults := [] }
def iB_version (q1 q2 q3 q4 : Pos) : List Stmt := [.Assign [.Attribute (.Name "self" q1) "version" q2] (.Name "version" q3) q4]
def iS_version : Scope := { kind := .function, names := [(PySem.Str.ofString "self", .local), (PySem.Str.ofString "version", .local)], isGenerator := false, isCoroutine := false, more := [] }
abbrev Txt_version (qn : Str) (K : Frag) (C fI : Addr) : Prop := Txt iA_version iB_version iS_version "version" qn K C fI
section
variable {prog : Program} {w : World} {A : Around} {E : Value → Shared → Prop} {R : Result → Shared → Prop} {s : Shared} {K : Frag} {qn : Str} {C fI : Addr}
theorem init_version (T : Txt_version qn K C fI) {x t0 : Addr} {v : Value} (X : K.In s.heap) (hlim : s.heap.NoLimit) (hx : s.heap.get? x = some (excO C t0)) (hnx : K.lookup x = none) (hroom : A.depth < recursionLimit)
    (hq : ∀ h' tk dx, InitEnd "version" s.heap h' x C dx t0 v → R (.ok (.ret .none)) { s with heap := h', toks := tk }) :
    codeAny (model prog w) A (.call (.ref fI) ⟨[.ref x, v], []⟩) R s := by
  obtain ⟨oc, od, doc, pm, an, cdv, ct, osl, p1, p2, q1, q2, q3, q4, ho, hcd⟩ := T.fn_
  obtain ⟨nm, q, N, bs, bm, sn, sub, ab, col, dd, k0, k1, k2, k3, k5, hC, hbm⟩ := T.cls
  have hcl : clsIn K C = some { name := nm, bases := bs, mro := .ref C :: bm, ns := N, qualname := q, hasDict := true, slotNames := sn, subclasses := sub, abstract := ab, collection := col, hasDel := false } := by unfold clsIn; rw [hC] <;> rfl
  refine Att.call_fn (binds := [("self", .ref x), ("version", v)]) X hlim ho hcd hroom (BindsTo.of_eq (by first | rfl | with_unfolding_all rfl)) (by first | rfl | decide | with_unfolding_all rfl) (fun s₁ IC => ?_) rfl rfl rfl
  obtain ⟨h₁, tk₁, rfl⟩ := IC.toInCall.same
  have k : ∀ b o, s.heap.get? b = some o → h₁.get? b = some o := IC.toInCall.keep
  have hn := IC.toInCall.ns
  have X₁ : K.In h₁ := X.keeps k
  have hx₁ := k _ _ hx
  show wpAny _ _ (execs _ _) _ _ _
  refine wpAny_execs_cons (plainObj_wpAny_Assign_Attribute ?_)
  refine ldC (v := v) hn (by first | rfl | with_unfolding_all rfl | kernel_rfl) (ldC (v := .ref x) hn (by first | rfl | with_unfolding_all rfl | kernel_rfl) ?_)
  refine set_plain X₁ (ox := excO C t0) (od := none) ⟨hx₁, rfl, rfl, trivial⟩ T.sa ?_
  refine exc_osa X₁ hx₁ hcl (show refsVE (.ref C :: bm) = true from hbm) rfl T.noN (fun h₃ tk₃ dx k₃ dn dne hx₃ hn₃ => ?_)
  show wpAny _ _ (execs _ _) _ _ _
  have z : s.heap.objs.size < h₁.objs.size := hn.lt
  exact wpAny_execs_nil (hq h₃ tk₃ dx ⟨fun b o hb e => k₃ b o hb (k b o e), hx₃, Nat.le_of_lt (Nat.lt_of_lt_of_le z dn), dne, hn₃⟩)
theorem made_version (T : Txt_version qn K C fI) {v : Value} (X : K.In s.heap) (hlim : s.heap.NoLimit) (hroom : A.depth + 1 < recursionLimit)
    (hq : ∀ h' tk e d, OwnMade "version" s.heap h' e C d v → R (.ok (.ret (.ref e))) { s with heap := h', toks := tk }) :
    codeAny (model prog w) A (.call (.ref C) ⟨[v], []⟩) R s := by
  obtain ⟨nm, q, N, bs, bm, sn, sub, ab, col, dd, k0, k1, k2, k3, k5, hC, hbm⟩ := T.cls
  obtain ⟨hp, g, dr, tk, os⟩ := s
  have k : ∀ b o, hp.get? b = some o → ((hp.push (kdv_tup [v])).push (excO C hp.objs.size)).get? b = some o := fun b o e => Heap.get?_push_of_some _ (Heap.get?_push_of_some _ e)
  have hget : ((hp.push (kdv_tup [v])).push (excO C hp.objs.size)).get? (hp.objs.size + 1) = some (excO C hp.objs.size) := by heap_get
  have hnx : K.lookup (hp.objs.size + 1) = none := by
    cases e : K.lookup (hp.objs.size + 1) with
    | none => rfl
    | some o =>
      have z : hp.get? (hp.objs.size + 1) = some o := X _ _ e
      exact absurd (Nat.lt_of_succ_lt (Heap.lt_size z)) (Nat.lt_irrefl _)
  refine call_own F.excBase_ValueError (fun X => refsVE_contains X bm hbm) (X _ _ hC) (looks_findIn X T.iC) (fun self => bind_fn X self T.tC) (one_size v) ?_
  refine init_version (s := ⟨(hp.push (kdv_tup [v])).push (excO C hp.objs.size), g, dr, tk, os⟩) T (X.keeps k) (hlim.keeps k) hget hnx ?_ fun h' tk' dx ⟨k', hx, dn, dne, hns⟩ => ?_
  · show A.depth + 1 < recursionLimit
    exact hroom
  · have old : ∀ b o, hp.get? b = some o → h'.get? b = some o := fun b o e => k' b o (Nat.ne_of_lt (Nat.lt_succ_of_lt (Heap.lt_size e))) (k b o e)
    have z : hp.objs.size + 1 + 1 ≤ dx := by
      first
        | (simpa only [Heap.size_push] using dn)
        | exact dn
        | (have q := dn; rw [Heap.size_push, Heap.size_push] at q; exact q)
    exact ⟨rfl, hq h' tk' (hp.objs.size + 1) dx ⟨old, Nat.le_succ _, ⟨_, _, hx, rfl, rfl, rfl, rfl⟩, Nat.le_trans (Nat.le_trans (Nat.le_succ _) (Nat.le_succ _)) z, dne, hns⟩⟩
end
end SlipX
end PySem
namespace L2
open PySem PySem.Spec PyProof.Rows
def tMkF (C : Addr) (fn : Str) (ta : TA) : St → Hp → XK → Prop := fun σ H Q => ta σ H fun vs H1 => ∃ v, vs = [v] ∧ ∀ d, H1 d = none → Q (.ref C) (some d) (upd H1 d (.xd [(fn, v)]))
theorem relO_one {v : V} {v' : Value} (fn : Str) (r : RelV v v') (f : Str) : RelO (List.lookup f [(fn, v)]) (if f = fn then some v' else none) := by
  by_cases hw : f = fn
  · subst hw
    rw [if_pos rfl]
    have q : List.lookup f [(f, v)] = some v := by simp [List.lookup]
    rw [q]
    exact r
  · rw [if_neg hw]
    have qw : (f == fn) = false := by simpa using hw
    have q2 : List.lookup f [(fn, v)] = none := by simp [List.lookup, qw]
    rw [q2]
    trivial
section
variable {X : Cx} {C fI : Addr} {cn fn : Str}
theorem mkP_own {pins : List (Addr × Obj)} {σ : St} {H1 : Hp} {Q : XK} {hp h' : Heap} {g : Array GenState} {dr : Drawn} {tk tk' : Nat} {os : OsState} {e d : Addr} {v : V} {v' : Value} (rv : RelV v v') (exC : PySem.W.subIn X.K (.ref C) (.type "BaseException") = some true) (tyC : PySem.W.typeIn X.K (.ref C) = some (.type "type"))
    (I1 : Inv X pins σ H1 ⟨hp, g, dr, tk, os⟩) (M : PySem.SlipX.OwnMade fn hp h' e C d v') (q1 : ∀ d, H1 d = none → Q (.ref C) (some d) (upd H1 d (.xd [(fn, v)]))) : MkP X pins σ Q (.ref e) ⟨h', g, dr, tk', os⟩ := by
  obtain ⟨oe, fv, hoe, hc, hd, hdat, h1⟩ := M.obj
  have hns := M.ns
  obtain ⟨G', g1, g2⟩ := restrict h' fun b => decide (b ≠ e)
  have gk : ∀ b, b ≠ e → G'.get? b = h'.get? b := fun b hb => g1 b (decide_eq_true hb)
  have ge : G'.get? e = none := g2 e (by simp)
  have old : ∀ b o, hp.get? b = some o → G'.get? b = some o := fun b o q => (gk b (Nat.ne_of_lt (Nat.lt_of_lt_of_le (Heap.lt_size q) M.new))).trans (M.keep b o q)
  have ob : ObjOk X.prog X.w (upd H1 d (.xd [(fn, v)])) G' d (.xd [(fn, v)]) :=
    ⟨_, hns.at (fun o q => (gk d M.dne).trans q), fun f => relO_one fn rv f⟩
  have J : Inv X pins σ (upd H1 d (.xd [(fn, v)])) ⟨G', g, dr, tk', os⟩ := I1.laid (t' := tk') old M.dbig ob
  refine ⟨e, oe, fv, ⟨G', g, dr, tk', os⟩, _, .ref C, some d, rfl, J, fun b o q => ?_, ge, hoe, ⟨hc, hd⟩, hdat, h1, ?_, rfl, I1.bare, raises_own exC tyC, q1 d (I1.hok.fresh M.dbig)⟩
  · by_cases hb : b = e
    · have q' : G'.get? b = some o := q
      rw [hb, ge] at q'; cases q'
    · exact (gk b hb).symm.trans q
  · rw [upd_ne (Ne.symm M.dne)]
    exact I1.hok.fresh M.new
theorem pmk_house {qn : Str} {a : Expr} {ta : TA} {p pos : Pos} {k : Nat} (T : PySem.SlipX.Txt_house qn X.K C fI) (gC : X.mg cn = some (.ref C)) (hr : Room k X.A) (ha : PA X [a] ta) (hg : Gl X cn) (hdb : (cn == ("__debug__" : Str)) = false)
    (he : starEach (a :: []) X.env = (false, eval a X.env) :: starEach [] X.env := by rfl) (hpl : (backTo pos (starEach [] X.env)).any (·.1) = false := by rfl) :
    PMk X (.Call (.Name cn p) [a] [] pos) (tMkF C "house" ta) := by
  intro pins s σ H Q I h
  refine wpAny_Call_Name_kw (ld_glob I hg gC ?_ hdb)
  refine PySem.W.callWith_K (h₀ := X.base) I.ok.mod.kin T.kC (thn (ha.run pos pins s σ H _ I h) fun us s1 hh => ?_) he hpl
  obtain ⟨vs, H1, I1, r1, v, ev, q1⟩ := hh
  subst ev
  refine ⟨I1.kIn, ?_⟩
  cases r1 with
  | cons rv rn =>
    rename_i v' us'
    cases rn
    show wpAny _ _ (call (.ref C) [v']) _ _ _
    have hlim := I1.nolimit
    obtain ⟨hp, g, dr, tk, os⟩ := s1
    exact wpAny_call (PySem.SlipX.made_house T I1.kIn hlim (by have := hr.dp; omega) fun h' tk' e d M => mkP_own rv T.exC T.tyC I1 M q1)
theorem pmk_amount {qn : Str} {a : Expr} {ta : TA} {p pos : Pos} {k : Nat} (T : PySem.SlipX.Txt_amount qn X.K C fI) (gC : X.mg cn = some (.ref C)) (hr : Room k X.A) (ha : PA X [a] ta) (hg : Gl X cn) (hdb : (cn == ("__debug__" : Str)) = false)
    (he : starEach (a :: []) X.env = (false, eval a X.env) :: starEach [] X.env := by rfl) (hpl : (backTo pos (starEach [] X.env)).any (·.1) = false := by rfl) :
    PMk X (.Call (.Name cn p) [a] [] pos) (tMkF C "amount" ta) := by
  intro pins s σ H Q I h
  refine wpAny_Call_Name_kw (ld_glob I hg gC ?_ hdb)
  refine PySem.W.callWith_K (h₀ := X.base) I.ok.mod.kin T.kC (thn (ha.run pos pins s σ H _ I h) fun us s1 hh => ?_) he hpl
  obtain ⟨vs, H1, I1, r1, v, ev, q1⟩ := hh
  subst ev
  refine ⟨I1.kIn, ?_⟩
  cases r1 with
  | cons rv rn =>
    rename_i v' us'
    cases rn
    show wpAny _ _ (call (.ref C) [v']) _ _ _
    have hlim := I1.nolimit
    obtain ⟨hp, g, dr, tk, os⟩ := s1
    exact wpAny_call (PySem.SlipX.made_amount T I1.kIn hlim (by have := hr.dp; omega) fun h' tk' e d M => mkP_own rv T.exC T.tyC I1 M q1)
theorem pmk_limit {qn : Str} {a : Expr} {ta : TA} {p pos : Pos} {k : Nat} (T : PySem.SlipX.Txt_limit qn X.K C fI) (gC : X.mg cn = some (.ref C)) (hr : Room k X.A) (ha : PA X [a] ta) (hg : Gl X cn) (hdb : (cn == ("__debug__" : Str)) = false)
    (he : starEach (a :: []) X.env = (false, eval a X.env) :: starEach [] X.env := by rfl) (hpl : (backTo pos (starEach [] X.env)).any (·.1) = false := by rfl) :
    PMk X (.Call (.Name cn p) [a] [] pos) (tMkF C "limit" ta) := by
  intro pins s σ H Q I h
  refine wpAny_Call_Name_kw (ld_glob I hg gC ?_ hdb)
  refine PySem.W.callWith_K (h₀ := X.base) I.ok.mod.kin T.kC (thn (ha.run pos pins s σ H _ I h) fun us s1 hh => ?_) he hpl
  obtain ⟨vs, H1, I1, r1, v, ev, q1⟩ := hh
  subst ev
  refine ⟨I1.kIn, ?_⟩
  cases r1 with
  | cons rv rn =>
    rename_i v' us'
    cases rn
    show wpAny _ _ (call (.ref C) [v']) _ _ _
    have hlim := I1.nolimit
    obtain ⟨hp, g, dr, tk, os⟩ := s1
    exact wpAny_call (PySem.SlipX.made_limit T I1.kIn hlim (by have := hr.dp; omega) fun h' tk' e d M => mkP_own rv T.exC T.tyC I1 M q1)
theorem pmk_error {qn : Str} {a : Expr} {ta : TA} {p pos : Pos} {k : Nat} (T : PySem.SlipX.Txt_error qn X.K C fI) (gC : X.mg cn = some (.ref C)) (hr : Room k X.A) (ha : PA X [a] ta) (hg : Gl X cn) (hdb : (cn == ("__debug__" : Str)) = false)
    (he : starEach (a :: []) X.env = (false, eval a X.env) :: starEach [] X.env := by rfl) (hpl : (backTo pos (starEach [] X.env)).any (·.1) = false := by rfl) :
    PMk X (.Call (.Name cn p) [a] [] pos) (tMkF C "error" ta) := by
  intro pins s σ H Q I h
  refine wpAny_Call_Name_kw (ld_glob I hg gC ?_ hdb)
  refine PySem.W.callWith_K (h₀ := X.base) I.ok.mod.kin T.kC (thn (ha.run pos pins s σ H _ I h) fun us s1 hh => ?_) he hpl
  obtain ⟨vs, H1, I1, r1, v, ev, q1⟩ := hh
  subst ev
  refine ⟨I1.kIn, ?_⟩
  cases r1 with
  | cons rv rn =>
    rename_i v' us'
    cases rn
    show wpAny _ _ (call (.ref C) [v']) _ _ _
    have hlim := I1.nolimit
    obtain ⟨hp, g, dr, tk, os⟩ := s1
    exact wpAny_call (PySem.SlipX.made_error T I1.kIn hlim (by have := hr.dp; omega) fun h' tk' e d M => mkP_own rv T.exC T.tyC I1 M q1)
theorem pmk_index {qn : Str} {a : Expr} {ta : TA} {p pos : Pos} {k : Nat} (T : PySem.SlipX.Txt_index qn X.K C fI) (gC : X.mg cn = some (.ref C)) (hr : Room k X.A) (ha : PA X [a] ta) (hg : Gl X cn) (hdb : (cn == ("__debug__" : Str)) = false)
    (he : starEach (a :: []) X.env = (false, eval a X.env) :: starEach [] X.env := by rfl) (hpl : (backTo pos (starEach [] X.env)).any (·.1) = false := by rfl) :
    PMk X (.Call (.Name cn p) [a] [] pos) (tMkF C "index" ta) := by
  intro pins s σ H Q I h
  refine wpAny_Call_Name_kw (ld_glob I hg gC ?_ hdb)
  refine PySem.W.callWith_K (h₀ := X.base) I.ok.mod.kin T.kC (thn (ha.run pos pins s σ H _ I h) fun us s1 hh => ?_) he hpl
  obtain ⟨vs, H1, I1, r1, v, ev, q1⟩ := hh
  subst ev
  refine ⟨I1.kIn, ?_⟩
  cases r1 with
  | cons rv rn =>
    rename_i v' us'
    cases rn
    show wpAny _ _ (call (.ref C) [v']) _ _ _
    have hlim := I1.nolimit
    obtain ⟨hp, g, dr, tk, os⟩ := s1
    exact wpAny_call (PySem.SlipX.made_index T I1.kIn hlim (by have := hr.dp; omega) fun h' tk' e d M => mkP_own rv T.exC T.tyC I1 M q1)
theorem pmk_version {qn : Str} {a : Expr} {ta : TA} {p pos : Pos} {k : Nat} (T : PySem.SlipX.Txt_version qn X.K C fI) (gC : X.mg cn = some (.ref C)) (hr : Room k X.A) (ha : PA X [a] ta) (hg : Gl X cn) (hdb : (cn == ("__debug__" : Str)) = false)
    (he : starEach (a :: []) X.env = (false, eval a X.env) :: starEach [] X.env := by rfl) (hpl : (backTo pos (starEach [] X.env)).any (·.1) = false := by rfl) :
    PMk X (.Call (.Name cn p) [a] [] pos) (tMkF C "version" ta) := by
  intro pins s σ H Q I h
  refine wpAny_Call_Name_kw (ld_glob I hg gC ?_ hdb)
  refine PySem.W.callWith_K (h₀ := X.base) I.ok.mod.kin T.kC (thn (ha.run pos pins s σ H _ I h) fun us s1 hh => ?_) he hpl
  obtain ⟨vs, H1, I1, r1, v, ev, q1⟩ := hh
  subst ev
  refine ⟨I1.kIn, ?_⟩
  cases r1 with
  | cons rv rn =>
    rename_i v' us'
    cases rn
    show wpAny _ _ (call (.ref C) [v']) _ _ _
    have hlim := I1.nolimit
    obtain ⟨hp, g, dr, tk, os⟩ := s1
    exact wpAny_call (PySem.SlipX.made_version T I1.kIn hlim (by have := hr.dp; omega) fun h' tk' e d M => mkP_own rv T.exC T.tyC I1 M q1)
end
end L2
namespace Dl
open PySem PySem.Spec PyProof.Rows L2
section
variable {X : Cx} {es : List Expr} {e : Expr} {u : DA_} {d : DT_} {db : DB_}
end
structure DXt (X : Cx) (e : Expr) (d : DT_) : Prop where
  run : ∃ t : WX → TE, (∀ W pn xe, Takes (X.tr pn xe) W → PE (X.tr pn xe) e (t W)) ∧ ∀ W Z S H σ env Q Qd Ed, Good S H → Rel Z S H σ env → XLink X.mg S H Ed (fun cls dx H' => W cls dx σ H') → d env Qd Ed → Cont S H Qd Q → t W σ H Q
section
variable {X : Cx} {k : Nat} {x kw : Str} {ps : List Str} {sp : SpD} {p pos kpos : Pos} {e e' : Expr} {es : List Expr} {u : DA_} {d : DT_}
end
def isx (n m : Str) : Bool := n == m || m == ("SlipError" : Str)
structure XCls (K : PySem.W.Frag) (mg : Str → Option Value) (B : Addr) (ms fs : List Str) (n : Str) (C : Addr) : Prop where
  g : mg n = some (.ref C)
  k : ExcC K C
  m : PySem.W.exmOne K (.ref C) (.ref B) = some true
  ve : PySem.W.kitOne K (.ref C) (.type "ValueError") = some true
  t : ∀ m ∈ ms, ∃ D, mg m = some (.ref D) ∧ PySem.W.kitOne K (.ref C) (.ref D) = some (isx n m)
  f : ∀ f ∈ fs, PySem.W.findIn K (.ref C) f = some none
structure XTab (K : PySem.W.Frag) (mg : Str → Option Value) (base : Str) (cs ms fs : List Str) : Prop where
  b : ∃ B, mg base = some (.ref B) ∧ ∀ n ∈ cs, ∃ C, XCls K mg B ms fs n C
structure Cau (X : Cx) (ms fs : List Str) (a : Addr) (oe : Obj) (C : Addr) (dx : Option Addr) (x : Exn) : Prop where
  z : Zc (.ref C) dx oe
  f : ∃ vs, oe.data = .fields vs
  c : ∃ B, XCls X.K X.mg B ms fs x.cls C
def DEnds.gone (De : DEnds) (i : Nat) : DEnds := { nx := fun env => De.nx (env.set i .no), rt := De.rt, ex := fun _ => False, bk := fun env => De.bk (env.set i .no), ct := fun env => De.ct (env.set i .no) }
section
variable {X : Cx} {E : XK} {ms fs cs : List Str} {base n : Str} {i : Nat} {e : Expr} {de : DT_} {b₀ : Stmt} {suite : List Stmt} {np p1 pos pos' : Pos} {hd : Addr → Option Addr → Exn → DS_}
end
section
variable {X : Cx} {ms fs : List Str} {a : Addr} {oe : Obj} {C : Addr} {dx : Option Addr} {x : Exn} {pn : List (Addr × Obj)} {E : XK}
structure DTup (X : Cx) (mg : Str → Option Value) (K : PySem.W.Frag) (C : Addr) (n : Str) (es : List Expr) (b : Bool) : Prop where
  run : ∃ (t : TA) (cs : List V) (us : List Value), PA X es t ∧ Paired ClsV cs us ∧ cs.length = es.length ∧ PySem.W.kitAny K (.ref C) us = some b ∧ ∀ σ H Q, Q cs H → t σ H Q
end
section
variable {X : Cx}
end
section
variable {X : Cx} {k : Nat}
end
section
variable {X : Cx} {E : XK} {a b : Expr} {da db : DT_} {pos : Pos}
end
section
variable {X : Cx} {E : XK} {elt tg iter : Expr} {ifs : List Expr} {scope : Scope} {own : List (Str × Nat)} {pos : Pos} {vsg : List Nat} {di : DI_} {dg : DG_} {tt : DB_} {te : DT_}
theorem lf_of : ∀ {ys : List D}, (∀ y ∈ ys, lfD y = true) → lfL ys = true
  | [], _ => rfl
  | y :: r, h => by
    simp only [lfL, Bool.and_eq_true]
    exact ⟨h y (by simp), lf_of fun z hz => h z (by simp [hz])⟩
def dnLend (i : Nat) (d : DN_) : DN_ := fun env Q E => match env[i]? with
  | some (.own xs) => d (env.set i (.v (.ls xs))) (fun ys => (∀ y ∈ ys, lfD y = true) ∧ Q ys) (fun x => lfX x ∧ E x)
  | _ => d env Q E
theorem NSem.lend {mg : Str → Option Value} {t : TE} {d : DN_} (i : Nat) (q : NSem mg E t d) : NSem mg E t (dnLend i d) := fun Z S H σ env Q Qd Ed g r l h k => by
  unfold dnLend at h
  split at h
  · next xs ei =>
    obtain ⟨a, vs, e1, e2, e3, e4, e5, e6, _, r'⟩ := r.lend ei
    refine q Z (S.with a vs) H σ _ Q _ _ (frz_step g e2 e3 e4) r' (l.lend g e2 e3 e4) h fun p H' S' us ys s' g' h0 h1 h2 h3 rp hx => ?_
    obtain ⟨s2, g2, ep⟩ := thaw g e2 e3 e4 s' g'
    refine k p H' _ us ys s2 g2 h0 h1 ?_ h3 (RpL.lf ep rp (lf_of hx.1)) hx.2
    show cut S'.F a p = none
    unfold cut
    split
    · rfl
    · exact h2
  · exact q Z S H σ env Q Qd Ed g r l h k
end
section
variable {X : Cx} {E : XK} {pos : Pos}
end
section
variable {X : Cx} {E : XK} {pos : Pos} {a b : Expr} {da db : DT_}
def oN (f : Int → Int → Int) (x y : D) (Q : DK) : Prop := match x, y with
  | .it i, .it j => Q (.it (f i j))
  | .bl k, .it j => Q (.it (f (if k = true then (1 : Int) else 0) j))
  | _, _ => False
def oAddN := oN fun i j => i + j
def oSubN := oN fun i j => i - j
def oStrN (xs : List D) (Q : DK) : Prop := match xs with
  | [.it i] => i.natAbs.log2 < 1920 ∧ Q (.st (toString i))
  | [.bl k] => Q (.st (if k then "True" else "False"))
  | _ => False
end
section
variable {X : Cx} {k : Nat}
def oEqNilT (x y : D) (Q : DK) : Prop := match x, y with
  | .tp xs, .tp [] => Q (.bl xs.isEmpty)
  | _, _ => False
end
section
variable {X : Cx} {E : XK} {pos : Pos}
end
section
variable {X : Cx} {E : XK} {pos : Pos}
end
structure SrtD (ys : List D) : Prop where
  plain : plainDL ys = true
  alike : PySem.W.AllAlike (ys.map D.py)
  srt : PySem.W.Sortable (ys.map D.py)
  deep : ∀ y ∈ ys, Dl.deep y ≤ 150
  len : ys.length ≤ sizeLine
section
variable {X : Cx} {E : XK} {pos : Pos}
end
mutual
theorem toks_inj : ∀ (x y : PyData), PySem.W.alike x y = true → ∀ l m, PySem.W.keyToks x ++ l = PySem.W.keyToks y ++ m → x = y ∧ l = m
  | .none, y, h, l, m, e => by
    cases y <;> simp [PySem.W.alike] at h
    exact ⟨rfl, by simpa [PySem.W.keyToks] using e⟩
  | .bool a, y, h, l, m, e => by
    cases y <;> simp [PySem.W.alike] at h
    simp only [PySem.W.keyToks, List.cons_append, List.nil_append, List.cons.injEq, Sum.inl.injEq] at e
    refine ⟨?_, e.2⟩
    have := e.1
    rename_i b
    cases a <;> cases b <;> simp at this ⊢
  | .int a, y, h, l, m, e => by
    cases y <;> simp [PySem.W.alike] at h
    simp only [PySem.W.keyToks, List.cons_append, List.nil_append, List.cons.injEq, Sum.inl.injEq] at e
    exact ⟨by rw [e.1], e.2⟩
  | .str a, y, h, l, m, e => by
    cases y <;> simp [PySem.W.alike] at h
    simp only [PySem.W.keyToks, List.cons_append, List.nil_append, List.cons.injEq, Sum.inr.injEq] at e
    exact ⟨by rw [PySem.W.str_of_cps e.1], e.2⟩
  | .list xs, y, h, l, m, e => by
    cases y <;> simp [PySem.W.alike] at h
    simp only [PySem.W.keyToks] at e
    obtain ⟨e1, e2⟩ := toksL_inj xs _ h l m e
    exact ⟨by rw [e1], e2⟩
  | .tuple xs, y, h, l, m, e => by
    cases y <;> simp [PySem.W.alike] at h
    simp only [PySem.W.keyToks] at e
    obtain ⟨e1, e2⟩ := toksL_inj xs _ h l m e
    exact ⟨by rw [e1], e2⟩
  | .dict xs, y, h, l, m, e => by cases y <;> simp [PySem.W.alike] at h
theorem toksL_inj : ∀ (xs ys : List PyData), PySem.W.alikeAll xs ys = true → ∀ l m, PySem.W.keyToksAll xs ++ l = PySem.W.keyToksAll ys ++ m → xs = ys ∧ l = m
  | [], [], _, l, m, e => ⟨rfl, by simpa [PySem.W.keyToksAll] using e⟩
  | [], y :: ys, _, l, m, e => by simp [PySem.W.keyToksAll] at e
  | x :: xs, [], _, l, m, e => by simp [PySem.W.keyToksAll] at e
  | x :: xs, y :: ys, h, l, m, e => by
    obtain ⟨h1, h2⟩ := PySem.W.alike_all_cons h
    rw [PySem.W.toks_all_cons, PySem.W.toks_all_cons] at e
    simp only [List.cons_append, List.append_assoc, List.cons.injEq, true_and] at e
    obtain ⟨e1, e2⟩ := toks_inj x y h1 _ _ e
    obtain ⟨e3, e4⟩ := toksL_inj xs ys h2 _ _ e2
    exact ⟨by rw [e1, e3], e4⟩
end
section
variable {X : Cx} {E : XK}
structure Own0 (K : PySem.W.Frag) (C : Addr) : Prop where
  x : PySem.W.excIn K C [.type "ValueError", .type "Exception", .type "BaseException", .type "object"] "ValueError.__new__" = true
  k : PySem.W.keepIn K (.ref C) = true
  e : PySem.W.subIn K (.ref C) (.type "BaseException") = some true
  t : PySem.W.typeIn K (.ref C) = some (.type "type")
theorem pmk_bare {cn : Str} {C : Addr} {p pos : Pos} (O : Own0 X.K C) (gC : X.mg cn = some (.ref C)) (hg : Gl X cn) (hdb : (cn == ("__debug__" : Str)) = false) : PMk X (.Call (.Name cn p) [] [] pos) (fun _ H Q => Q (.ref C) none H) := fun pins s σ H Q I h =>
  wpAny_Call_Name_kw (ld_glob I hg gC (PySem.W.callWith_K0 I.kIn O.k (by
    obtain ⟨_, _, _, _, _, _, _, _, _, _, _, _, _, _, _, _, _, oC, oN, oI, tail⟩ := exc_obj I.kIn O.x
    exact wpAny_call_exc_subT PySem.F.excBase_ValueError tail oC oN oI (fun hh ee mm => mk_of I mm (raises_own O.e O.t) h (I.hok.gone mm.new)) (Nat.zero_le _))) hdb)
end
section
variable {t : Option Bx} {F : Hp}
theorem RpF.some {f : Str} : ∀ {vs : List (Str × V)} {ds : List (Str × D)} {d : D}, RpF t F vs ds → ds.lookup f = some d → ∃ v, vs.lookup f = some v ∧ Rp t F v d
  | _, _, _, .nil, h => by cases h
  | _, _, d, @RpF.cons _ _ k v d' vs ds r s, h => by
    rw [List.lookup_cons] at h ⊢
    cases hc : f == k with
    | true => rw [hc] at h; cases h; exact ⟨_, rfl, r⟩
    | false => rw [hc] at h; exact RpF.some s h
end
section
variable {X : Cx} {E : XK} {C : Addr}
def tNewX (C : Addr) (t : L2.St → Hp → XK → Prop) : TE := fun σ H Q => t σ H fun cls d H1 => cls = .ref C ∧ ∀ a, H1 a = none → Q (.ref a) (upd H1 a (xO C d a))
theorem pe_of_pmk {e : Expr} {t : L2.St → Hp → XK → Prop} (h : PMk X e t) : PE X e (tNewX C t) := ⟨fun pins s σ H Q I q => by
  refine wpAny_mono (h pins s σ H _ I q) (fun u s1 hu => ?_) fun _ _ x => x
  obtain ⟨a, oe, vs, sI, H', cls, d, rfl, J, k, hne, ha, hz, hd, h1, na, os, ag, _, rfl, qq⟩ := hu
  have J1 := J.laidN (a := a) (o := xO C d a) (t' := sI.toks) k hne na (xO_ok ha hz hd)
  exact ⟨.ref a, _, ⟨J1.ok, os.trans J1.os, ag, J1.base, J1.loc, J1.cell, J1.free, J1.freeC, J1.pin, J1.hok, J1.len⟩, rfl, qq a na⟩⟩
theorem err_new {S : Sta} {H : Hp} {Q : VK} {Qd : DK} {v : V} {x : D} {fn : Str} (hC : C ∈ vcs) (g : Good S H) (r : Rp S.bx S.F v x) (k : Cont S H Qd Q) (h : Qd (.vo C [(fn, x)])) {d a : Addr} (hd : H d = none) (ha : (upd H d (.xd [(fn, v)])) a = none) :
    Q (.ref a) (upd (upd H d (.xd [(fn, v)])) a (xO C (some d) a)) := by
  obtain ⟨s1, g1⟩ := step_new g (o := .xd [(fn, v)]) hd
  obtain ⟨s2, g2⟩ := step_new g1 (o := xO C (some d) a) ha
  have s := s1.trans g1 s2
  have ne : d ≠ a := fun z => by rw [← z, upd_same] at ha; cases ha
  refine k _ _ _ _ s g2 (.vo hC upd_same (.inr ⟨d, rfl, ?_⟩) (.cons (r.le s.le) .nil)) h
  show upd (upd S.F d _) a _ d = _
  rw [upd_ne ne, upd_same]
def dNewX (C : Addr) (fn : Str) (da : DT_) : DT_ := fun env Q E => da env (fun x => Q (.vo C [(fn, x)])) E
def dNewX0 (C : Addr) : DT_ := fun _ Q _ => Q (.vo C [])
theorem de_newXF {cn fn : Str} {da : DT_} {a : Expr} {p pos : Pos} {t : TE} (hC : C ∈ vcs)
    (sem : ∀ Z S H σ env Q Qd Ed, Good S H → Rel Z S H σ env → XLink X.mg S H Ed E → da env Qd Ed → Cont S H Qd Q → t σ H Q) (mk : PMk X (.Call (.Name cn p) [a] [] pos) (tMkF C fn (tCons t tNil))) : DE X E (.Call (.Name cn p) [a] [] pos) (dNewX C fn da) :=
  ⟨_, pe_of_pmk (C := C) mk, fun Z S H σ env Q Qd Ed g r l h k => sem Z S H σ env _ _ Ed g r l h fun v H1 S1 x s1 g1 rv hx => ⟨v, rfl, fun d hd => ⟨rfl, fun b hb => err_new hC g1 rv (k.step s1 g1) hx hd hb⟩⟩⟩
theorem de_newX_house {fI : Addr} {cn qn : Str} {da : DT_} {a : Expr} {p pos : Pos} {k : Nat} (hC : C ∈ vcs) (T : PySem.SlipX.Txt_house qn X.K C fI) (gC : X.mg cn = some (.ref C)) (hr : Room k X.A) (ha : DE X E a da) (hg : Gl X cn) (hdb : (cn == ("__debug__" : Str)) = false := by decide)
    (he : starEach (a :: []) X.env = (false, eval a X.env) :: starEach [] X.env := by rfl) (hpl : (backTo pos (starEach [] X.env)).any (·.1) = false := by rfl) : DE X E (.Call (.Name cn p) [a] [] pos) (dNewX C "house" da) := by
  obtain ⟨t, pa, q⟩ := ha.run
  exact de_newXF hC q (pmk_house T gC hr (pa_cons pa pa_nil he) hg hdb he hpl)
theorem de_newX_amount {fI : Addr} {cn qn : Str} {da : DT_} {a : Expr} {p pos : Pos} {k : Nat} (hC : C ∈ vcs) (T : PySem.SlipX.Txt_amount qn X.K C fI) (gC : X.mg cn = some (.ref C)) (hr : Room k X.A) (ha : DE X E a da) (hg : Gl X cn) (hdb : (cn == ("__debug__" : Str)) = false := by decide)
    (he : starEach (a :: []) X.env = (false, eval a X.env) :: starEach [] X.env := by rfl) (hpl : (backTo pos (starEach [] X.env)).any (·.1) = false := by rfl) : DE X E (.Call (.Name cn p) [a] [] pos) (dNewX C "amount" da) := by
  obtain ⟨t, pa, q⟩ := ha.run
  exact de_newXF hC q (pmk_amount T gC hr (pa_cons pa pa_nil he) hg hdb he hpl)
theorem de_newX_limit {fI : Addr} {cn qn : Str} {da : DT_} {a : Expr} {p pos : Pos} {k : Nat} (hC : C ∈ vcs) (T : PySem.SlipX.Txt_limit qn X.K C fI) (gC : X.mg cn = some (.ref C)) (hr : Room k X.A) (ha : DE X E a da) (hg : Gl X cn) (hdb : (cn == ("__debug__" : Str)) = false := by decide)
    (he : starEach (a :: []) X.env = (false, eval a X.env) :: starEach [] X.env := by rfl) (hpl : (backTo pos (starEach [] X.env)).any (·.1) = false := by rfl) : DE X E (.Call (.Name cn p) [a] [] pos) (dNewX C "limit" da) := by
  obtain ⟨t, pa, q⟩ := ha.run
  exact de_newXF hC q (pmk_limit T gC hr (pa_cons pa pa_nil he) hg hdb he hpl)
theorem de_newX_error {fI : Addr} {cn qn : Str} {da : DT_} {a : Expr} {p pos : Pos} {k : Nat} (hC : C ∈ vcs) (T : PySem.SlipX.Txt_error qn X.K C fI) (gC : X.mg cn = some (.ref C)) (hr : Room k X.A) (ha : DE X E a da) (hg : Gl X cn) (hdb : (cn == ("__debug__" : Str)) = false := by decide)
    (he : starEach (a :: []) X.env = (false, eval a X.env) :: starEach [] X.env := by rfl) (hpl : (backTo pos (starEach [] X.env)).any (·.1) = false := by rfl) : DE X E (.Call (.Name cn p) [a] [] pos) (dNewX C "error" da) := by
  obtain ⟨t, pa, q⟩ := ha.run
  exact de_newXF hC q (pmk_error T gC hr (pa_cons pa pa_nil he) hg hdb he hpl)
theorem de_newX_index {fI : Addr} {cn qn : Str} {da : DT_} {a : Expr} {p pos : Pos} {k : Nat} (hC : C ∈ vcs) (T : PySem.SlipX.Txt_index qn X.K C fI) (gC : X.mg cn = some (.ref C)) (hr : Room k X.A) (ha : DE X E a da) (hg : Gl X cn) (hdb : (cn == ("__debug__" : Str)) = false := by decide)
    (he : starEach (a :: []) X.env = (false, eval a X.env) :: starEach [] X.env := by rfl) (hpl : (backTo pos (starEach [] X.env)).any (·.1) = false := by rfl) : DE X E (.Call (.Name cn p) [a] [] pos) (dNewX C "index" da) := by
  obtain ⟨t, pa, q⟩ := ha.run
  exact de_newXF hC q (pmk_index T gC hr (pa_cons pa pa_nil he) hg hdb he hpl)
theorem de_newX_version {fI : Addr} {cn qn : Str} {da : DT_} {a : Expr} {p pos : Pos} {k : Nat} (hC : C ∈ vcs) (T : PySem.SlipX.Txt_version qn X.K C fI) (gC : X.mg cn = some (.ref C)) (hr : Room k X.A) (ha : DE X E a da) (hg : Gl X cn) (hdb : (cn == ("__debug__" : Str)) = false := by decide)
    (he : starEach (a :: []) X.env = (false, eval a X.env) :: starEach [] X.env := by rfl) (hpl : (backTo pos (starEach [] X.env)).any (·.1) = false := by rfl) : DE X E (.Call (.Name cn p) [a] [] pos) (dNewX C "version" da) := by
  obtain ⟨t, pa, q⟩ := ha.run
  exact de_newXF hC q (pmk_version T gC hr (pa_cons pa pa_nil he) hg hdb he hpl)
theorem de_newX0 {cn : Str} {p pos : Pos} (hC : C ∈ vcs) (O : Own0 X.K C) (gC : X.mg cn = some (.ref C)) (hg : Gl X cn) (hdb : (cn == ("__debug__" : Str)) = false := by decide) : DE X E (.Call (.Name cn p) [] [] pos) (dNewX0 C) :=
  ⟨_, pe_of_pmk (C := C) (pmk_bare O gC hg hdb), fun Z S H σ env Q Qd Ed g r l h k => ⟨rfl, fun a ha => by
    obtain ⟨s1, g1⟩ := step_new g (o := xO C none a) ha
    exact k _ _ _ _ s1 g1 (.vo hC upd_same (.inl ⟨rfl, rfl⟩) .nil) h⟩⟩
end
def XAll (K : PySem.W.Frag) (mg : Str → Option Value) (ms fs : List Str) : Prop := ∀ C ∈ vcs, ∃ B, XCls K mg B ms fs (xnm C) C
section
variable {X : Cx} {E : XK} {ms fs : List Str} {e : Expr} {da : DT_} {f : Str} {pos : Pos}
theorem xo_inst {pins : List (Addr × Obj)} {σ : L2.St} {H : Hp} {s : Shared} {a C : Addr} {d : Option Addr} (I : Inv X pins σ H s) (h : H a = some (xO C d a)) (hd : d = none ∨ ∃ dd gs, d = some dd ∧ H dd = some (.xd gs)) :
    ∃ oe od, PySem.W.InstAt s.heap a oe C od := by
  obtain ⟨⟨oe, vs, h1, hz, hv⟩, _⟩ := (show ObjOk X.prog X.w H s.heap a (xO C d a) from I.hok a _ h)
  have no : PySem.W.notCls oe = true := by unfold PySem.W.notCls; rw [hv] <;> rfl
  rcases hd with hd | ⟨dd, gs, hd, hx⟩
  · exact ⟨oe, none, h1, hz.1, no, by rw [hz.2, hd]; trivial⟩
  · have ok : ObjOk X.prog X.w H s.heap dd (.xd gs) := I.hok dd _ hx
    obtain ⟨mA, hns, _⟩ := ok
    obtain ⟨od, ho, _⟩ := lookIn_ns hns
    exact ⟨oe, some od, h1, hz.1, no, by rw [hz.2, hd]; exact ho⟩
def tXfv (K : PySem.W.Frag) (f : Str) (te : TE) : TE := fun σ H Q => te σ H fun x H1 => ∃ (a C dd : Addr) (gs : List (Str × V)) (v : V), x = .ref a ∧ XfC K C ∧ PySem.W.findIn K (.ref C) f = some none ∧ H1 a = some (xO C (some dd) a) ∧ H1 dd = some (.xd gs) ∧ gs.lookup f = some v ∧ Q v H1
theorem pe_xfv {te : TE} (he : PE X e te) (hb : attributeBase e f X.env (eval e X.env) = eval e X.env := by rfl) : PE X (.Attribute e f pos) (tXfv X.K f te) := by
  refine ⟨fun pins s σ H Q I h => ?_⟩
  refine attr_of hb (thn (he.run pins s σ H _ I h) fun u s1 hh => ?_)
  obtain ⟨x, H1, I1, rx, a, C, dd, gs, v, ex, T, hno, e1, e2, l, q⟩ := hh
  subst ex
  obtain rfl : u = Value.ref a := rx
  obtain ⟨⟨oe, vs, ha, hz, hd⟩, _⟩ := (show ObjOk X.prog X.w H1 s1.heap a (xO C (some dd) a) from I1.hok a _ e1)
  have hx : ObjOk X.prog X.w H1 s1.heap dd (.xd gs) := I1.hok dd _ e2
  obtain ⟨mA, hns, hr⟩ := hx
  obtain ⟨od, ho, hl⟩ := lookIn_ns hns
  obtain ⟨u, hu, ru⟩ := RelO.some_of (v := v) (o := mA f) (by rw [← l]; exact hr f)
  have J : PySem.W.InstAt s1.heap a oe C (some od) := ⟨ha, hz.1, by unfold PySem.W.notCls; rw [hd] <;> rfl, by rw [hz.2]; exact ho⟩
  exact HandSPX.exc_get I1.kIn J T.ga T.gg T.exC (PySem.W.findObj_own T.hdC hno rfl (by rw [hl, hu])) (handed_of ru) ⟨v, H1, I1.tok _, ru, q⟩
def dFldX (f : Str) (da : DT_) : DT_ := fun env Q E => da env (fun x => match x with
  | .vo _ fs => ∃ d, fs.lookup f = some d ∧ Q d
  | _ => False) E
theorem de_fldX (A : XAll X.K X.mg ms fs) (hf : f ∈ fs) (ha : DE X E e da) (hb : attributeBase e f X.env (eval e X.env) = eval e X.env := by rfl) : DE X E (.Attribute e f pos) (dFldX f da) := by
  obtain ⟨t, p, q⟩ := ha.run
  refine ⟨_, pe_xfv p hb, fun Z S H σ env Q Qd Ed g r l h k0 => ?_⟩
  refine q Z S H σ env _ _ Ed g r l h fun v H1 S1 x s1 g1 r1 h1 => ?_
  split at h1
  · next C' fs' =>
    obtain ⟨d, e1, e2⟩ := h1
    cases r1 with
    | vo hC ea eb rf =>
      obtain ⟨u, e3, ru⟩ := rf.some e1
      obtain ⟨B, k⟩ := A _ hC
      rcases eb with ⟨_, ev⟩ | ⟨dd, rfl, eb⟩
      · subst ev; cases e3
      · exact ⟨_, _, dd, _, u, rfl, ⟨k.k.hg, k.k.hk, k.k.hs, k.k.hd⟩, k.f f hf, g1.fz _ _ ea, g1.fz _ _ eb, e3, (k0.step s1 g1).now g1 ru e2⟩
  · exact h1.elim
theorem kit_xo {K : PySem.W.Frag} {C a : Addr} {oe : Obj} {od : Option Obj} (q : ExcC K C) : PySem.W.KitX K (.ref a) (.ref C) (fun h => PySem.W.InstAt h a oe C od) := by
  have hcl : (PySem.W.clsIn K C).isSome = true := by
    have hd := q.hd
    unfold PySem.W.hasDictIn at hd
    cases e : PySem.W.clsIn K C with
    | none => rw [e] at hd; cases hd
    | some cd => rfl
  exact PySem.W.kitx_exc hcl q.hg q.hk q.hs q.ha q.hn q.ht q.hm
def rIsV (K : PySem.W.Frag) : List V → Hp → VK → Prop := fun xs H Q => ∃ (a C : Addr) (d : Option Addr) (c : V) (cv : Value) (b : Bool), xs = [.ref a, c] ∧ H a = some (xO C d a) ∧ (d = none ∨ ∃ dd gs, d = some dd ∧ H dd = some (.xd gs)) ∧ ExcC K C ∧
  (∀ u, RelV c u → u = cv) ∧ PySem.W.kitOne K (.ref C) cv = some b ∧ Q (.bl b) H
theorem call_isV : CallR X (.builtin "isinstance") (rIsV X.K) := by
  intro pins s σ H zs us Q I rz h
  obtain ⟨a, C, d, v, cv, b, rfl, e1, hd, c, hcv, ek, q⟩ := h
  obtain ⟨oe, od, J⟩ := xo_inst I e1 hd
  obtain ⟨u1, u2, rfl, r1, r2⟩ := vals2 rz
  cases (show u1 = Value.ref a from r1)
  rw [hcv _ r2]
  exact PySem.W.kia_one (kit_xo c) I.kIn J ek (fun z => nomatch z) fun tk => ⟨.bl b, H, I.tok tk, rfl, q⟩
def dIsM (m : Str) (da : DT_) : DT_ := fun env Q E => da env (fun x => match x with
  | .vo C _ => Q (.bl (isx (xnm C) m))
  | _ => False) E
def dIsE (da : DT_) : DT_ := fun env Q E => da env (fun x => match x with
  | .vo _ _ => Q (.bl true)
  | _ => False) E
theorem vo_d {S : Sta} {H : Hp} {d : Option Addr} {vs : List (Str × V)} (g : Good S H) (h : d = none ∧ vs = [] ∨ ∃ dd, d = some dd ∧ S.F dd = some (.xd vs)) : d = none ∨ ∃ dd gs, d = some dd ∧ H dd = some (.xd gs) := by
  rcases h with ⟨h, _⟩ | ⟨dd, h1, h2⟩
  · exact .inl h
  · exact .inr ⟨dd, _, h1, g.fz _ _ h2⟩
theorem de_isM {m : Str} {p p2 : Pos} (A : XAll X.K X.mg ms fs) (hm : m ∈ ms) (ha : DE X E e da) (hgI : Gl X "isinstance") (hmI : X.mg "isinstance" = none) (hg : Gl X m) (hdm : (m == ("__debug__" : Str)) = false)
    (na : starEach [e, .Name m p2] X.env = (false, eval e X.env) :: starEach [.Name m p2] X.env := by rfl) (nb : starEach [.Name m p2] X.env = (false, eval (.Name m p2) X.env) :: starEach [] X.env := by rfl)
    (hpl : (backTo pos (starEach [.Name m p2] X.env)).any (·.1) = false := by rfl) (hmg : ∃ Dm, X.mg m = some (.ref Dm) := by exact ⟨_, by assumption⟩) :
    DE X E (.Call (.Name "isinstance" p) [e, .Name m p2] [] pos) (dIsM m da) := by
  obtain ⟨t, pa, q⟩ := ha.run
  obtain ⟨Dm, e0⟩ := hmg
  refine ⟨_, pe_callB call_isV hgI hmI boot_isinstance (pa_cons pa (pa_cons (pe_glob (v := .ref Dm) hg e0 rfl hdm) pa_nil nb) na) (by decide) (by decide) na hpl, fun Z S H σ env Q Qd Ed g r l h k0 => ?_⟩
  refine q Z S H σ env _ _ Ed g r l h fun v H1 S1 x s1 g1 r1 h1 => ?_
  split at h1
  · next C' fs' =>
    cases r1 with
    | vo hC ea eb rf =>
      obtain ⟨B, k⟩ := A _ hC
      obtain ⟨Dm', e1, e2⟩ := k.t m hm
      rw [e0] at e1; cases e1
      exact ⟨_, _, _, .ref Dm, .ref Dm, _, rfl, g1.fz _ _ ea, vo_d g1 eb, k.k, fun u ru => ru, e2, (k0.step s1 g1).now g1 (.bl _) h1⟩
  · exact h1.elim
theorem de_isE {p p2 : Pos} (A : XAll X.K X.mg ms fs) (ha : DE X E e da) (hgI : Gl X "isinstance") (hmI : X.mg "isinstance" = none) (hg : Gl X "ValueError") (hmV : X.mg "ValueError" = none)
    (na : starEach [e, .Name "ValueError" p2] X.env = (false, eval e X.env) :: starEach [.Name "ValueError" p2] X.env := by rfl) (nb : starEach [.Name "ValueError" p2] X.env = (false, eval (.Name "ValueError" p2) X.env) :: starEach [] X.env := by rfl)
    (hpl : (backTo pos (starEach [.Name "ValueError" p2] X.env)).any (·.1) = false := by rfl) :
    DE X E (.Call (.Name "isinstance" p) [e, .Name "ValueError" p2] [] pos) (dIsE da) := by
  obtain ⟨t, pa, q⟩ := ha.run
  refine ⟨_, pe_callB call_isV hgI hmI boot_isinstance (pa_cons pa (pa_cons (pe_bltn (v := .ty "ValueError") hg hmV (by decide +kernel) rfl (by decide) (by decide)) pa_nil nb) na) (by decide) (by decide) na hpl, fun Z S H σ env Q Qd Ed g r l h k0 => ?_⟩
  refine q Z S H σ env _ _ Ed g r l h fun v H1 S1 x s1 g1 r1 h1 => ?_
  split at h1
  · next C' fs' =>
    cases r1 with
    | vo hC ea eb rf =>
      obtain ⟨B, k⟩ := A _ hC
      exact ⟨_, _, _, .ty "ValueError", .type "ValueError", _, rfl, g1.fz _ _ ea, vo_d g1 eb, k.k, fun u ru => ru, k.ve, (k0.step s1 g1).now g1 (.bl _) h1⟩
  · exact h1.elim
end
def dBag (i j : Nat) (C : Addr) (fn : Str) (m : Int) (u : DS_) : DS_ := fun De env => match env[i]? with
  | some (.own xs) => xs.length < sizeLine ∧ u De ((env.set i (.v (.ls (xs ++ [.it m])))).set j (.v (.vo C [(fn, .ls (xs ++ [.it m]))])))
  | _ => False
section
variable {X : Cx} {E : XK} {C fI : Addr} {cn qn : Str} {x y : Str} {m : Int} {rest : List Stmt} {u : DS_} {k : Nat} {p1 p2 p3 p4 p5 p6 p7 p8 p9 p10 : Pos} {k8}
theorem dss_bag (i j : Nat) (hC : C ∈ vcs) (T : PySem.SlipX.Txt_amount qn X.K C fI) (gC : X.mg cn = some (.ref C)) (hr : Room k X.A) (hg : Gl X cn) (hN : X.N.Nodup) (h2 : DSs X E rest u) (hij : i ≠ j := by decide) (hi : X.N[i]? = some x := by rfl) (hj : X.N[j]? = some y := by rfl)
    (hv : Vis X.env.scope x := by first | exact Or.inl rfl | exact Or.inr (Or.inl rfl) | exact Or.inr (Or.inr rfl)) (hd : (x == ("__debug__" : Str)) = false := by decide) (hcd : (x == ("__classdict__" : Str)) = false := by decide) (hdb : (cn == ("__debug__" : Str)) = false := by decide)
    (hx : Loc X.env.scope y := by first | exact Or.inl rfl | exact Or.inr rfl) (hsw : swapsWith (.Call (.Name cn p2) [.Name x p3] [] p4) (some (.Name y p1)) p5.line X.env = pure false := by rfl)
    (hf : X.fn y = true ∨ X.env.scope.names.lookup y = some .local := by first | exact .inl rfl | exact .inr rfl | assumption)
    (he1 : starEach [.Name x p3] X.env = (false, eval (.Name x p3) X.env) :: starEach [] X.env := by rfl) (hpl1 : (backTo p4 (starEach [] X.env)).any (·.1) = false := by rfl)
    (hb : attributeBase (.Name x p6) "append" X.env (eval (.Name x p6) X.env) = eval (.Name x p6) X.env := by rfl)
    (hs : starEach [.Constant (.int m) k8 p8] X.env = (false, eval (.Constant (.int m) k8 p8) X.env) :: starEach [] X.env := by rfl) (hsw2 : swapsWith (.Call (.Attribute (.Name x p6) "append" p7) [.Constant (.int m) k8 p8] [] p9) none p10.line X.env = pure false := by rfl)
    (hfew : (((backTo p9 (starEach [.Constant (.int m) k8 p8] X.env)).all (!·.1) && (backToKw p9 (keywordEach [] X.env)).all (·.1.isSome)) && decide (([.Constant (.int m) k8 p8] : List Expr).length + ([] : List Keyword).length + (if ([] : List Keyword).isEmpty then 0 else 1) < 30)) = true := by rfl)
    (hline : (p7.endLine == p9.line) = true := by rfl) :
    DSs X E (.Assign [.Name y p1] (.Call (.Name cn p2) [.Name x p3] [] p4) p5 :: .Expr (.Call (.Attribute (.Name x p6) "append" p7) [.Constant (.int m) k8 p8] [] p9) p10 :: rest) (dBag i j C "amount" m u) := by
  obtain ⟨t', p', q'⟩ := h2.run
  refine ⟨_, pss_cons (ps_set hN hj hx (pe_of_pmk (C := C) (pmk_amount T gC hr (pa_cons (pe_var hi hv hd hcd) pa_nil he1) hg hdb he1 hpl1)) hsw hf)
    (pss_cons (ps_expr (pe_bm PySem.F.plainAttrs_list PySem.F.slot_list_append PySem.F.type_list_append mt_append (pe_var hi hv hd hcd) (pa_cons pe_int pa_nil hs) hb hfew hline hs rfl) hsw2) p'), fun B De Dn l S σ env H a r h => ?_⟩
  unfold dBag at h
  split at h
  · next xs ei =>
    obtain ⟨b, vs, e1, e2, e3, e4, e5, e6⟩ := r.at_ i _ ei
    refine ⟨_, e1, _, rfl, fun d hdn => ⟨rfl, fun x0 hx0 => ?_⟩⟩
    obtain ⟨s1, g1⟩ := step_new a.g (o := .xd [("amount", .ref b)]) hdn
    obtain ⟨s2, g2⟩ := step_new g1 (o := xO C (some d) x0) hx0
    have s := s1.trans g1 s2
    have a2 := a.step s g2
    have r2 := (r.step s).drop_ j (some (.ref x0))
    have ei2 : (env.set j Sl.no)[i]? = some (.own xs) := by rw [List.getElem?_set_ne (Ne.symm hij)]; exact ei
    have es2 : (σ.set j (some (V.ref x0)))[i]? = some (some (.ref b)) := by rw [List.getElem?_set_ne (Ne.symm hij)]; exact e1
    obtain ⟨b', vs', q1, q2, q3, q4, q5, q6⟩ := r2.at_ i _ ei2
    rw [es2] at q1; cases q1
    refine ⟨_, es2, .inl ⟨rfl, _, SqL.of q2⟩, ⟨b, vs', .int m, rfl, rfl, q2, by rw [q6.length]; exact h.1, ?_⟩⟩
    have r3 := r2.mut ei2 es2 (q6.app (.one (.it m)))
    have a3 := at_mut (us := vs' ++ [.int m]) a2 q5 q3 q4 (nx_lst q2)
    have ei3 : ((env.set j Sl.no).set i (.own (xs ++ [.it m])))[i]? = some (.own (xs ++ [.it m])) := List.getElem?_set_self (List.getElem?_eq_some_iff.mp ei2).1
    obtain ⟨b3, vs3, w1, w2, w3, w4, w5, w6, _, r4⟩ := r3.lend ei3
    have a4 := frz_at a3 w2 w5 w3 w4
    have ne : d ≠ x0 := fun z => by rw [← z, upd_same] at hx0; cases hx0
    have f1 : (upd (upd S.F d (.xd [("amount", .ref b)])) x0 (xO C (some d) x0)) x0 = some (xO C (some d) x0) := upd_same
    have f2 : (upd (upd S.F d (.xd [("amount", .ref b)])) x0 (xO C (some d) x0)) d = some (.xd [("amount", .ref b)]) := by rw [upd_ne ne, upd_same]
    have eb : b3 = b := by rw [es2] at w1; cases w1; rfl
    subst eb
    have le := frz_le (vs := vs3) w3
    have rv : Rp S.bx (upd (upd (upd S.F d (.xd [("amount", .ref b3)])) x0 (xO C (some d) x0)) b3 (.lst vs3)) (.ref x0) (.vo C [("amount", .ls (xs ++ [.it m]))]) :=
      .vo hC (le.f _ _ f1) (.inr ⟨d, rfl, le.f _ _ f2⟩) (.cons (.ls upd_same (w6.le le)) .nil)
    have r5 := r4.put (i := j) rv
    have eS : (σ.set j (some (V.ref x0))).set j (some (V.ref x0)) = σ.set j (some (V.ref x0)) := List.set_set ..
    have eE : ∀ A B C' : Sl, (((env.set j Sl.no).set i A).set i B).set j C' = (env.set i B).set j C' := fun A B C' => by rw [List.set_set, List.set_comm _ _ (Ne.symm hij), List.set_set]
    rw [eS, eE] at r5
    exact q' B De Dn l _ _ _ _ a4 r5 h.2
  · exact h.elim
end
def top (i : Nat) : Stmt := PySem.Challenge.pw_slipturns_k01_limits_and_errors.main.body.getD i (.Pass ⟨0, 0, 0, 0⟩)
abbrev s__law_opened : Stmt := top 33
abbrev s__law_draw : Stmt := top 34
abbrev s__law_one : Stmt := top 35
abbrev s__law_odd : Stmt := top 36
abbrev s__law_plain : Stmt := top 37
abbrev s__law_filled : Stmt := top 38
abbrev s__law_alone : Stmt := top 39
abbrev s__law_made : Stmt := top 40
abbrev s_law : Stmt := top 41
abbrev kGreat : Key := .inr "great"
abbrev kSmall : Key := .inr "small"
abbrev kTurn : Key := .inr "turn"
def B1 (b g s : Addr) (H : Hp) (gs ss : List Int) (t : Int) : Prop := H b = some (.dK [(kGreat, .ref g), (kSmall, .ref s), (kTurn, .int t)]) ∧ H g = some (.lst (gs.map V.int)) ∧ H s = some (.lst (ss.map V.int)) ∧ g ≠ s ∧
  (∀ n ∈ gs, 0 ≤ n) ∧ ss ≠ [] ∧ gs.length ≤ 100 ∧ ss.length ≤ 200
def b1 (b g s : Addr) : Bx where
  b := b
  k := false
  own := [b, g, s]
  inv := fun H => ∃ gs ss t, B1 b g s H gs ss t
  mem := List.mem_cons_self
  loc := fun H H' e _ ⟨gs, ss, t, h1, h2, h3, h4⟩ => ⟨gs, ss, t, by rw [e b (by simp)]; exact h1, by rw [e g (by simp)]; exact h2, by rw [e s (by simp)]; exact h3, h4⟩
  has := fun H ⟨gs, ss, t, h1, h2, h3, _⟩ a ha => by
    simp only [List.mem_cons, List.not_mem_nil, or_false] at ha
    rcases ha with rfl | rfl | rfl
    · exact ⟨_, h1⟩
    · exact ⟨_, h2⟩
    · exact ⟨_, h3⟩
  ty := fun H ⟨gs, ss, t, h1, _⟩ => by rw [if_neg Bool.false_ne_true]; exact ⟨_, h1⟩
theorem inv_bx {t : Option Bx} {F : Hp} {v : V} {k : Bool} {P : Bx → Prop} (r : Rp t F v (.bx k P)) : ∃ x, t = some x ∧ P x ∧ v = .ref x.b := by
  generalize e : D.bx k P = d at r
  cases r with
  | bx h p => cases e; exact ⟨_, h, p, rfl⟩
  | _ => cases e
theorem box_step {S : Sta} {H H' : Hp} {x : Bx} (g : Good S H) (e : S.bx = some x) (off : ∀ a o, H a = some o → a ∉ x.own → H' a = some o) (inv : x.inv H') : Stp S H S H' ∧ Good S H' := by
  refine ⟨⟨fun _ _ h => h, fun _ _ h => .inl h, rfl, fun a o h hb => off a o h fun ha => hb ⟨x, e, ha⟩⟩, ⟨fun a o h => off a o (g.fz a o h) fun ha => ?_, fun y ey => ?_, g.nb⟩⟩
  · have := g.nb a ⟨x, e, ha⟩
    rw [h] at this; cases this
  · rw [e] at ey; cases ey; exact inv
theorem atI_last {α : Type} (xs : List α) (x : α) : atI (xs ++ [x]) (-1) = some x := by
  unfold atI ixN
  have h0 : ¬ ((0 : Int) ≤ -1) := by decide
  rw [if_neg h0, if_pos (by rw [List.length_append]; simp; omega)]
  have e : ((-1 : Int) + ((xs ++ [x]).length : Nat)).toNat = xs.length := by rw [List.length_append]; simp; omega
  simp only [Option.bind_some, e]
  simp
theorem ixN_last (n : Nat) : ixN (n + 1) (-1) = some n := by
  unfold ixN
  have h0 : ¬ ((0 : Int) ≤ -1) := by decide
  rw [if_neg h0, if_pos (by omega)]
  congr 1
  omega
theorem list_last {α : Type} : ∀ xs : List α, xs ≠ [] → ∃ ys y, xs = ys ++ [y] := fun xs h => ⟨xs.dropLast, xs.getLast h, (List.dropLast_concat_getLast h).symm⟩
theorem dp_ints {K : PySem.W.Frag} {H : Hp} : ∀ ns : List Int, DpAll K H (ns.map V.int) (ns.map PyData.int)
  | [] => .nil
  | n :: r => .cons (.int n) (dp_ints r)
theorem lay_ints : ∀ ns : List Int, PyData.canLayAll0 (ns.map PyData.int) = true ∧ PyData.depthAll (ns.map PyData.int) = 0
  | [] => ⟨rfl, rfl⟩
  | n :: r => by
    obtain ⟨h1, h2⟩ := lay_ints r
    refine ⟨?_, ?_⟩
    · rw [List.map_cons]; simp only [PyData.canLayAll0, PyData.canLay0, h1, Bool.and_self]
    · rw [List.map_cons]; simp only [PyData.depthAll, PyData.depth, h2, Nat.max_self]
theorem shaped_ints (ns : List Int) : SeqAt.shaped (.list (ns.map PyData.int)) = true := by
  obtain ⟨h1, h2⟩ := lay_ints ns
  unfold SeqAt.shaped
  simp only [PyData.canLay0, PyData.depth, h1, h2, Bool.true_and, decide_eq_true_eq]
  omega
theorem eqv_nil (ns : List Int) : PyData.eqv (.list (ns.map PyData.int)) (.list []) = decide (ns = []) := by
  cases ns with
  | nil => rfl
  | cons n r => rfl
theorem B1.fresh {b g s p : Addr} {H : Hp} {gs ss : List Int} {t : Int} {o : HO} (h : B1 b g s H gs ss t) (hp : H p = none) : B1 b g s (upd H p o) gs ss t :=
  ⟨by rw [upd_ne (ne_of_none h.1 hp)]; exact h.1, by rw [upd_ne (ne_of_none h.2.1 hp)]; exact h.2.1, by rw [upd_ne (ne_of_none h.2.2.1 hp)]; exact h.2.2.1, h.2.2.2⟩
theorem B1.bg {b g s : Addr} {H : Hp} {gs ss : List Int} {t : Int} (h : B1 b g s H gs ss t) : b ≠ g := ne_of h.1 h.2.1 (by intro z; cases z)
theorem B1.bs {b g s : Addr} {H : Hp} {gs ss : List Int} {t : Int} (h : B1 b g s H gs ss t) : b ≠ s := ne_of h.1 h.2.2.1 (by intro z; cases z)
theorem B1.great {b g s : Addr} {H : Hp} {gs ss : List Int} {t : Int} (h : B1 b g s H gs ss t) {gs' : List Int} (h1 : ∀ n ∈ gs', 0 ≤ n) (h2 : gs'.length ≤ 100) : B1 b g s (upd H g (.lst (gs'.map V.int))) gs' ss t :=
  ⟨by rw [upd_ne h.bg]; exact h.1, upd_same, by rw [upd_ne (Ne.symm h.2.2.2.1)]; exact h.2.2.1, h.2.2.2.1, h1, h.2.2.2.2.2.1, h2, h.2.2.2.2.2.2.2⟩
theorem B1.turn {b g s : Addr} {H : Hp} {gs ss : List Int} {t : Int} (h : B1 b g s H gs ss t) (t' : Int) : B1 b g s (upd H b (.dK [(kGreat, .ref g), (kSmall, .ref s), (kTurn, .int t')])) gs ss t' :=
  ⟨upd_same, by rw [upd_ne (Ne.symm h.bg)]; exact h.2.1, by rw [upd_ne (Ne.symm h.bs)]; exact h.2.2.1, h.2.2.2⟩
theorem dget1 {H : Hp} {b : Addr} {kvs : List (Key × V)} {x : Str} {v : V} (e : H b = some (.dK kvs)) (h : valV kvs (.inr x) = some v) : DGet H b (.str x) (some v) := by
  have := DGet.k (k := .inr x) e
  rw [h] at this; exact this
theorem kgs : ¬ (kGreat = kSmall) := by decide +kernel
theorem kgt : ¬ (kGreat = kTurn) := by decide +kernel
theorem kst : ¬ (kSmall = kTurn) := by decide +kernel
theorem B1.getG {b g s : Addr} {H : Hp} {gs ss : List Int} {t : Int} (h : B1 b g s H gs ss t) : DGet H b (.str "great") (some (.ref g)) := dget1 h.1 (valV_pos rfl)
theorem B1.getS {b g s : Addr} {H : Hp} {gs ss : List Int} {t : Int} (h : B1 b g s H gs ss t) : DGet H b (.str "small") (some (.ref s)) := dget1 h.1 (by rw [valV_neg kgs]; exact valV_pos rfl)
theorem B1.getT {b g s : Addr} {H : Hp} {gs ss : List Int} {t : Int} (h : B1 b g s H gs ss t) : DGet H b (.str "turn") (some (.int t)) := dget1 h.1 (by rw [valV_neg kgt, valV_neg kst]; exact valV_pos rfl)
theorem B1.putT {b g s : Addr} {H : Hp} {gs ss : List Int} {t : Int} (h : B1 b g s H gs ss t) (t' : Int) : DPut H b (.str "turn") (.int t') (upd H b (.dK [(kGreat, .ref g), (kSmall, .ref s), (kTurn, .int t')])) := by
  have q := DPut.k (k := kTurn) (v := .int t') h.1 (by show 3 < sizeLine; decide)
  have e : putK [(kGreat, V.ref g), (kSmall, V.ref s), (kTurn, V.int t)] kTurn (.int t') = [(kGreat, .ref g), (kSmall, .ref s), (kTurn, .int t')] := by
    have h1 : ¬ (Str.ofString "great" = Str.ofString "turn") := by decide +kernel
    have h2 : ¬ (Str.ofString "small" = Str.ofString "turn") := by decide +kernel
    unfold putK
    simp [h1, h2]
  rw [e] at q
  exact q
theorem ix_last {K : PySem.W.Frag} {σ : L2.St} {H : Hp} {Q : VK} {g : Addr} {ys : List Int} {y : Int} {i : Nat} (e : σ[i]? = some (some (.ref g))) (h : H g = some (.lst ((ys ++ [y]).map V.int))) (q : Q (.int y) H) :
    tOp (rIxL K) (tVar i) (tUn (rU fun i => .int (-i)) (tC (.int 1))) σ H Q := ⟨_, e, 1, rfl, g, _, -1, _, rfl, rfl, SqL.of h, by rw [List.map_append]; exact atI_last _ _, q⟩
def IsB1 (x : Bx) : Prop := ∃ b g s, x = b1 b g s
abbrev dBox : D := .bx false IsB1
def spDraw : SpD := fun ds Q _ => ∃ many, ds = [dBox, .it many] ∧ 0 < many ∧ many < 2 ^ 200 ∧ ∀ r, 0 ≤ r → r < many → Q (.it r)
abbrev N_draw : List Str := ["_law_box", "_law_many", "_law_great", "_law_digit", "_law_cell", "_law_mixed"]
section
variable {P : Program} {w : World} {K : PySem.W.Frag} {mg : Str → Option Value} {base : Heap}
theorem sc_draw : FnScope N_draw ["_law_box", "_law_many"] (defScope s__law_draw) := ⟨rfl, rfl, rfl, by decide +kernel, rfl, by decide +kernel, by decide +kernel⟩
theorem g_draw {f : Addr} {fd : FuncData} (F : Fun K "_law_draw" "_law_draw" s__law_draw f fd) (hl : mg "len" = none) : HFn P w K mg base 1 f fd ["_law_box", "_law_many"]
    (fun vs H Q _ => ∃ b g s gs ss t many, vs = [.ref b, .int many] ∧ B1 b g s H gs ss t ∧ 0 < many ∧ many < 2 ^ 200 ∧ ∀ H' r gs' t', B1 b g s H' gs' ss t' → (∀ a o, H a = some o → a ∉ [b, g, s] → H' a = some o) → 0 ≤ r → r < many → Q (.int r) H') := by
  refine hfn_mk F sc_draw (fun vs H Q E ⟨_, _, _, _, _, _, _, e, _⟩ => by rw [e]; rfl) fun cdv A outer s0 H vs Q E hr hgd h => ?_
  obtain ⟨b, g, s, gs, ss, t, many, rfl, hB, hm, hm2, k⟩ := h
  have hu := hu_of hr
  have hu2 : (cxD P w K mg base N_draw "_law_draw" (defScope s__law_draw) f cdv A outer s0 H E).A.units + 64 < cLine := hr.units
  refine ⟨_, pss_cons (ps_set (i := 2) sc_draw.nd rfl (Or.inl rfl) (pe_dget hu (pv 0) pe_str (fun _ _ => rfl)))
    (pss_cons (ps_while (passes_of rfl) (pt_cmpR (L2.op_neD hu2) (pv 2) (pe_lst pa_nil) rfl)
      (pss_cons (ps_if (pt_cmpR op_gt (pe_ix ix_list (pv 2) (pe_un un_neg pe_int) (fun _ _ => rfl)) pe_int (nomark _))
        (pss_cons (ps_set (i := 3) sc_draw.nd rfl (Or.inl rfl) (pe_op op_mod (pe_ix ix_list (pv 2) (pe_un un_neg pe_int) (fun _ _ => rfl)) (pv 1)))
          (pss_cons (ps_asg (pe_op op_fdivW (pe_ix ix_list (pv 2) (pe_un un_neg pe_int) (fun _ _ => rfl)) (pv 1)) (pg_sub (pv 2) (pe_un un_neg pe_int) set_list))
            (pss_one (ps_ret (pv 3))))) pss_nil)
        (pss_one (ps_expr (pe_bm0 PySem.F.plainAttrs_list PySem.F.slot_list_pop PySem.F.type_list_pop mt_pop (pv 2))))))
    (pss_cons (ps_asg (pe_op op_add (pe_dget hu (pv 0) pe_str (fun _ _ => rfl)) pe_int) (pg_sub (pv 0) pe_str (set_dict hu)))
    (pss_cons (ps_set (i := 4) sc_draw.nd rfl (Or.inl rfl) (pe_ix ix_list (pe_dget hu (pv 0) pe_str (fun _ _ => rfl)) (pe_op op_mod (pe_dget hu (pv 0) pe_str (fun _ _ => rfl)) (pe_callB call_len (by rfl) hl PySem.boot_len (pa_cons (pe_dget hu (pv 0) pe_str (fun _ _ => rfl)) pa_nil))) (fun _ _ => rfl)))
    (pss_cons (ps_set (i := 5) sc_draw.nd rfl (Or.inl rfl) (pe_op op_mod (pe_op op_add (pe_op op_mul (pv 4) pe_int) (pe_op op_mul (pe_dget hu (pv 0) pe_str (fun _ _ => rfl)) pe_int)) pe_int))
    (pss_cons (ps_set (i := 5) sc_draw.nd rfl (Or.inl rfl) (pe_op op_mod (pe_op op_mul (pv 5) (pe_op op_add (pe_op op_fdivW (pv 5) pe_int) pe_int)) pe_int))
    (pss_one (ps_ret (pe_op op_mod (pe_op op_fdivW (pv 5) pe_int) (pv 1))))))))), ?_⟩
  have hlog : many.natAbs.log2 < 9000 := by
    by_cases z : many.natAbs = 0
    · rw [z]; decide
    · have h1 : many.natAbs < 2 ^ 200 := by omega
      exact Nat.lt_of_lt_of_le ((Nat.log2_lt z).mpr h1) (by decide)
  have hd : ∀ i, CDivW i many := fun _ => ⟨hm, hlog⟩
  refine ⟨_, rfl, b, _, rfl, hB.getG, ?_⟩
  refine ⟨fun m σ H' => ∃ gs' d c x, m = gs'.length ∧ σ = [some (.ref b), some (.int many), some (.ref g), d, c, x] ∧ B1 b g s H' gs' ss t ∧ ∀ a o, H a = some o → a ∉ [b, g, s] → H' a = some o,
    ⟨_, gs, none, none, none, rfl, rfl, hB, fun _ _ h _ => h⟩, ?_⟩
  rintro m σ H1 ⟨gs1, d, c, x, rfl, rfl, hB1, off⟩
  refine ⟨_, rfl, Nat.zero_le _, fun p hp => ?_⟩
  have hB2 := hB1.fresh (o := .lst []) hp
  have off2 : ∀ a o, H a = some o → a ∉ [b, g, s] → upd H1 p (.lst []) a = some o := fun a o h n => by
    have := off a o h n
    rw [upd_ne (ne_of_none this hp)]; exact this
  have hp2 : upd H1 p (.lst []) p = some (.lst []) := upd_same
  generalize upd H1 p (.lst []) = H2 at hB2 off2 hp2
  refine ⟨.list (gs1.map PyData.int), .list [], .lst (SqL.of hB2.2.1) (dp_ints gs1), ?_, shaped_ints gs1, rfl, _, rfl, ?_⟩
  · exact .lst (SqL.of hp2) .nil
  rw [eqv_nil]
  by_cases hz : gs1 = []
  · subst hz
    show if (!decide (([] : List Int) = [])) = true then _ else _
    rw [if_neg (by simp)]
    refine ⟨_, rfl, b, _, rfl, hB2.getT, t, 1, rfl, rfl, ?_⟩
    refine ⟨_, rfl, b, _, rfl, hB2.putT (t + 1), ?_⟩
    have hB3 := hB2.turn (t + 1)
    have off3 : ∀ a o, H a = some o → a ∉ [b, g, s] → upd H2 b (.dK [(kGreat, .ref g), (kSmall, .ref s), (kTurn, .int (t + 1))]) a = some o := fun a o h n => by
      rw [upd_ne fun z => n (by rw [z]; simp)]; exact off2 a o h n
    generalize upd H2 b (.dK [(kGreat, .ref g), (kSmall, .ref s), (kTurn, .int (t + 1))]) = H3 at hB3 off3
    have hs0 : 0 < ss.length := List.length_pos_iff.mpr hB3.2.2.2.2.2.1
    have hsl : (((ss.map V.int).length : Nat) : Int) = (ss.length : Int) := by rw [List.length_map]
    have hpos : (0 : Int) < ((ss.map V.int).length : Nat) := by rw [hsl]; omega
    have hmod : 0 ≤ (t + 1) % (((ss.map V.int).length : Nat) : Int) ∧ (t + 1) % (((ss.map V.int).length : Nat) : Int) < (((ss.map V.int).length : Nat) : Int) := ⟨Int.emod_nonneg _ (by omega), Int.emod_lt_of_pos _ hpos⟩
    obtain ⟨j, ej⟩ : ∃ j : Nat, (t + 1) % (((ss.map V.int).length : Nat) : Int) = (j : Nat) := ⟨((t + 1) % (((ss.map V.int).length : Nat) : Int)).toNat, by omega⟩
    have hj : j < ss.length := by rw [ej, hsl] at hmod; omega
    refine ⟨_, rfl, b, _, rfl, hB3.getS, _, rfl, b, _, rfl, hB3.getT, _, rfl, b, _, rfl, hB3.getS, _, _, rfl, .inl ⟨_, SqL.of hB3.2.2.1, rfl⟩, t + 1, _, rfl, rfl, hpos, ?_⟩
    refine ⟨s, _, _, .int ss[j], rfl, rfl, SqL.of hB3.2.2.1, by rw [ej]; exact atI_nat (by rw [List.getElem?_map, List.getElem?_eq_getElem hj]; rfl), ?_⟩
    generalize ss[j] = cell
    refine ⟨_, rfl, cell, 6364136223846793005, rfl, rfl, .inr (by decide), _, rfl, b, _, rfl, hB3.getT, t + 1, 1442695040888963407, rfl, rfl, .inr (by decide), _, _, rfl, rfl, _, 18446744073709551557, rfl, rfl, (by show (0 : Int) < 18446744073709551557; decide), ?_⟩
    have hx : ∀ z : Int, 0 ≤ z % 18446744073709551557 ∧ z % 18446744073709551557 < 18446744073709551557 := fun z => ⟨Int.emod_nonneg _ (by decide), Int.emod_lt_of_pos _ (by decide)⟩
    have h1 := hx (cell * 6364136223846793005 + (t + 1) * 1442695040888963407)
    obtain ⟨m1, em1⟩ : ∃ m1, (cell * 6364136223846793005 + (t + 1) * 1442695040888963407) % 18446744073709551557 = m1 := ⟨_, rfl⟩
    rw [em1] at h1
    refine ⟨_, rfl, _, rfl, m1, 4294967296, congrArg V.int em1, rfl, ⟨by decide, by decide +kernel⟩, _, 17, rfl, rfl, m1, _, congrArg V.int em1, rfl, .inl ⟨by omega, by omega⟩, _, 18446744073709551557, rfl, rfl, (by show (0 : Int) < 18446744073709551557; decide), ?_⟩
    refine ⟨_, rfl, _, 65536, rfl, rfl, ⟨by decide, by decide +kernel⟩, _, rfl, _, many, rfl, rfl, hm, ?_⟩
    exact k H3 _ [] (t + 1) hB3 off3 (Int.emod_nonneg _ (by omega)) (Int.emod_lt_of_pos _ hm)
  · show if (!decide (gs1 = [])) = true then _ else _
    rw [if_pos (by simp [hz])]
    obtain ⟨ys, y, rfl⟩ := list_last gs1 hz
    have hlen : ys.length + 1 ≤ 100 := by have := hB2.2.2.2.2.2.2.1; rw [List.length_append] at this; simpa using this
    have hy : 0 ≤ y := hB2.2.2.2.2.1 y (by simp)
    have hys : ∀ n ∈ ys, 0 ≤ n := fun n hn => hB2.2.2.2.2.1 n (List.mem_append_left _ hn)
    refine ⟨fun σ' H' => ∃ gs' d c x, gs'.length < (ys ++ [y]).length ∧ σ' = [some (.ref b), some (.int many), some (.ref g), d, c, x] ∧ B1 b g s H' gs' ss t ∧ ∀ a o, H a = some o → a ∉ [b, g, s] → H' a = some o,
      fun σ' H' ⟨gs', d, c, x, h1, h2, h3, h4⟩ => ⟨_, h1, gs', d, c, x, rfl, h2, h3, h4⟩, ?_⟩
    refine ix_last rfl hB2.2.1 ⟨y, 0, rfl, rfl, decide (0 < y), rfl, ?_⟩
    by_cases hy0 : 0 < y
    · rw [decide_eq_true hy0]
      refine L2.iteT ?_
      refine ix_last rfl hB2.2.1 ⟨_, rfl, y, many, rfl, rfl, hm, ?_⟩
      refine ix_last rfl hB2.2.1 ⟨_, rfl, y, many, rfl, rfl, hd y, ?_⟩
      refine ⟨_, rfl, 1, rfl, g, _, -1, ys.length, rfl, rfl, hB2.2.1, by rw [List.length_map, List.length_append]; exact ixN_last _, ?_⟩
      have e : ((ys ++ [y]).map V.int).set ys.length (.int (y / many)) = (ys ++ [y / many]).map V.int := by
        rw [List.map_append, List.map_append, List.set_append_right _ _ (by simp)]; simp
      refine ⟨_, rfl, ?_⟩
      have hB3 := hB2.great (gs' := ys ++ [y / many]) (fun n hn => by
        rcases List.mem_append.mp hn with z | z
        · exact hys n z
        · have : n = y / many := by simpa using z
          rw [this]; exact Int.ediv_nonneg hy (by omega)) (by rw [List.length_append]; simpa using hlen)
      have off3 : ∀ a o, H a = some o → a ∉ [b, g, s] → upd H2 g (.lst ((ys ++ [y / many]).map V.int)) a = some o := fun a o h n => by
        rw [upd_ne fun z => n (by rw [z]; simp)]; exact off2 a o h n
      show Q (.int (y % many)) (upd H2 g (.lst (((ys ++ [y]).map V.int).set ys.length (.int (y / many)))))
      rw [e]
      exact k _ _ _ _ hB3 off3 (Int.emod_nonneg _ (by omega)) (Int.emod_lt_of_pos _ hm)
    · rw [decide_eq_false hy0]
      refine L2.iteF ?_
      refine ⟨_, rfl, .inl ⟨rfl, _, SqL.of hB2.2.1⟩, g, _, .int y, rfl, rfl, hB2.2.1, ?_, ?_⟩
      · rw [List.map_append]; simp
      · have e : ((ys ++ [y]).map V.int).dropLast = ys.map V.int := by rw [List.map_append]; simp
        rw [e]
        refine ⟨ys, _, _, _, by simp, rfl, hB2.great hys (by omega), fun a o h n => ?_⟩
        rw [upd_ne fun z => n (by rw [z]; simp)]; exact off2 a o h n
theorem d_draw {f : Addr} {fd : FuncData} (F : Fun K "_law_draw" "_law_draw" s__law_draw f fd) (hl : mg "len" = none) : GFn P w K mg base 1 f fd ["_law_box", "_law_many"] spDraw := by
  refine GFn.of ⟨fun vs H Q E ⟨S, ds, Qd, Ed, g, rp, ⟨many, e, _⟩, _⟩ => by rw [rp.length, e]; rfl, fun A outer s H args us vs Q E hr hgd e0 hb rv h => ?_⟩ fun ds Q E ⟨many, e, _⟩ => by rw [e]; rfl
  obtain ⟨S, ds, Qd, Ed, g, rp, ⟨many, rfl, hm, hm2, k⟩, k0, l0⟩ := h
  refine (g_draw F hl).run A outer s H args us vs Q E hr hgd e0 hb rv ?_
  cases rp with
  | cons r1 r2 =>
    cases r2 with
    | cons r2 r3 =>
      cases r3
      cases r2
      obtain ⟨x, ex, ⟨b, g0, s0, rfl⟩, rfl⟩ := inv_bx r1
      obtain ⟨gs, ss, t, hB⟩ := g.bx _ ex
      refine ⟨b, g0, s0, gs, ss, t, many, rfl, hB, hm, hm2, fun H' r gs' t' hB' off h1 h2 => ?_⟩
      obtain ⟨st, g'⟩ := box_step g ex off ⟨gs', ss, t', hB'⟩
      exact k0 _ H' S _ st g' (.it r) (k r h1 h2)
theorem xl_none {mg : Str → Option Value} {S : Sta} {H : Hp} {E : XK} : XLink mg S H (fun _ => False) E := fun _ _ _ _ _ _ _ _ h => h.elim
def sNone : Sta := ⟨none, fun _ => none⟩
theorem good_none (H : Hp) : Good sNone H := ⟨fun _ _ e => (by have e' : (none : Option HO) = some _ := e; cases e'), fun _ e => (by have e' : (none : Option Bx) = some _ := e; cases e'), fun _ _ => rfl⟩
abbrev retVals : Stmt → List Expr | .Return (some (.Dict _ vs _)) _ => vs | _ => []
theorem rel_no {Z : Hp} {S : Sta} {H : Hp} (σ : L2.St) : Rel Z S H σ (List.replicate σ.length Sl.no) where
  len := by rw [List.length_replicate]
  at_ := fun i s e => by
    rw [List.getElem?_replicate] at e
    split at e
    · cases e; trivial
    · cases e
  sep := fun i j xs ys a _ e _ _ => by
    rw [List.getElem?_replicate] at e
    split at e <;> cases e
  sepO := fun i j w a C fs w' a' C' fs' _ e _ => by
    rw [List.getElem?_replicate] at e
    split at e <;> cases e
theorem cut_ints (ns : List Int) (lo hi : Option Int) : ∃ ms : List Int, cutV (ns.map V.int) lo hi = ms.map V.int ∧ ms = (ns.drop (HT.sIx ns.length 0 lo)).take (HT.sIx ns.length ns.length hi - HT.sIx ns.length 0 lo) :=
  ⟨_, by unfold cutV; rw [List.length_map, List.map_take, List.map_drop], rfl⟩
abbrev N_opened : List Str := ["_law_script", "_law_cells", "_law_small", "_law_great", "_law_cell"]
theorem sc_opened : FnScope N_opened ["_law_script"] (defScope s__law_opened) := ⟨rfl, rfl, rfl, by decide +kernel, rfl, by decide +kernel, by decide +kernel⟩
theorem g_opened {f : Addr} {fd : FuncData} (F : Fun K "_law_opened" "_law_opened" s__law_opened f fd) (hl : mg "abs" = none) (hi : mg "int" = none) : HFn P w K mg base 1 f fd ["_law_script"]
    (fun vs H Q _ => ∃ (a : Addr) (ns : List Int), vs = [.ref a] ∧ SqL K H a (ns.map V.int) ∧ ∀ H' b g s gs ss t, B1 b g s H' gs ss t → (∀ a o, H a = some o → H' a = some o) → H b = none → H g = none → H s = none → Q (.ref b) H') := by
  refine hfn_mk F sc_opened (fun vs H Q E ⟨_, _, e, _⟩ => by rw [e]; rfl) fun cdv A outer s0 H vs Q E hr hgd h => ?_
  obtain ⟨a, ns, rfl, hS, k⟩ := h
  have hu := hu_of hr
  have q2 : DS (cxD P w K mg base N_opened "_law_opened" (defScope s__law_opened) f cdv A outer s0 H E) E ((defBody s__law_opened).getD 1 (.Pass ⟨0, 0, 0, 0⟩)) _ :=
    ds_setLcN 2 rfl sc_opened.nd (di_seq (de_var 1)) (own := [("_law_cell", 4)]) (blkOk_by (by show blkC N_opened (defScope s__law_opened) _ _ = true; decide +kernel)) (vsg := [4]) (by decide) (fun s H C cl fp => dg_name 4 sc_opened.nd) (fun s H C cl fp => dts_one (db_lt (de_var 4) (de_pow de_int de_int))) (fun s H C cl fp => de_var 4) rfl
  have q3 : DS (cxD P w K mg base N_opened "_law_opened" (defScope s__law_opened) f cdv A outer s0 H E) E ((defBody s__law_opened).getD 2 (.Pass ⟨0, 0, 0, 0⟩)) _ :=
    ds_setLcO 3 rfl sc_opened.nd (di_seq (de_var 1)) (own := [("_law_cell", 4)]) (blkOk_by (by show blkC N_opened (defScope s__law_opened) _ _ = true; decide +kernel)) (vsg := [4]) (by decide) (fun s H C cl fp => dg_name 4 sc_opened.nd) (fun s H C cl fp => dts_one (db_ge (de_var 4) (de_pow de_int de_int))) (fun s H C cl fp => de_var 4) rfl
  have hlc : LcRaw (cxD P w K mg base N_opened "_law_opened" (defScope s__law_opened) f cdv A outer s0 H E) ((defBody s__law_opened).getD 0 (.Pass ⟨0, 0, 0, 0⟩)) 1 _ _ _ _ _ :=
    lcN_raw 1 rfl sc_opened.nd (pi_seq (pe_slice sl_list (pv 0) po_none (po_some pe_int))) (own := [("_law_cell", 4)]) (blkOk_by (by show blkC N_opened (defScope s__law_opened) _ _ = true; decide +kernel)) (vsg := [4]) (by decide) (fun s H C cl fp => dg_name 4 sc_opened.nd) (fun s H C cl fp => dts_nil) (fun s H C cl fp => de_abs rfl hl (da_cons (de_var 4) da_nil)) rfl
  have q1 : ∃ t, PS (cxD P w K mg base N_opened "_law_opened" (defScope s__law_opened) f cdv A outer s0 H E) ((defBody s__law_opened).getD 0 (.Pass ⟨0, 0, 0, 0⟩)) t ∧
      ∀ (Dn : Ends), (∀ S1 H1 p (cells : List Int), Stp sNone H S1 H1 → Good S1 H1 → Rp S1.bx S1.F (.ref p) (.ls (cells.map D.it)) → (∀ n ∈ cells, 0 ≤ n) → cells.length ≤ 61 → Dn.nx [some (.ref a), some (.ref p), none, none, none] H1) → t Dn (L2.start N_opened [.ref a]) H := by
    obtain ⟨t, p, q⟩ := hlc
    refine ⟨t, p, fun Dn kk => ?_⟩
    refine q Dn H sNone H (L2.start N_opened [.ref a]) (List.replicate 5 Sl.no) (fun xs => ∃ cells : List Int, xs = cells.map D.it ∧ (∀ n ∈ cells, 0 ≤ n) ∧ cells.length ≤ 61) (good_none H) (rel_no _) (fun R hR => ?_) fun p' H' S' xs st g' rp ⟨cells, e, hp, hl⟩ => ?_
    · obtain ⟨ms, e1, e2⟩ := cut_ints ns none (some 61)
      have hms : ms.length ≤ 61 := by
        rw [e2, List.length_take]
        refine Nat.le_trans (Nat.min_le_left _ _) ?_
        have e3 : HT.sIx ns.length ns.length (some 61) = min 61 ns.length := by
          show (if (61 : Int) < 0 then ((61 : Int) + (ns.length : Int)).toNat else min (61 : Int).toNat ns.length) = _
          rw [if_neg (by decide)]; rfl
        rw [e3]
        have : min 61 ns.length ≤ 61 := Nat.min_le_left _ _
        omega
      refine ⟨_, rfl, 61, rfl, a, _, rfl, hS, fun r hr0 => ⟨r, rfl, .inl ⟨⟨_, SqL.of upd_same⟩, ?_⟩⟩⟩
      obtain ⟨st, g'⟩ := step_new (good_none H) (o := .lst (cutV (ns.map V.int) none (some 61))) hr0
      refine hR _ _ _ (ms.map D.it) st g' (wlk_l (vs := cutV (ns.map V.int) none (some 61)) (by show upd _ r _ r = _; exact upd_same) (by rw [e1]; exact RpL.ints ms)) ?_
      refine lcD_map (fun x => match x with | .it n => .it (if n < 0 then -n else n) | d => d) _ (fun x hx Y hY => ?_) (by rw [List.length_map, sizeLine_eq]; omega) ⟨ms.map fun n => if n < 0 then -n else n, ?_, ?_, ?_⟩
      · obtain ⟨n, _, rfl⟩ := List.mem_map.mp hx
        exact hY
      · rw [List.map_map, List.map_map]; rfl
      · intro n hn
        obtain ⟨m, _, rfl⟩ := List.mem_map.mp hn
        split <;> omega
      · rw [List.length_map]; exact hms
    · subst e
      exact kk S' H' p' cells st g' rp hp hl
  obtain ⟨t1, p1, r1⟩ := q1
  obtain ⟨t2, p2, r2⟩ := q2.run
  obtain ⟨t3, p3, r3⟩ := q3.run
  have q4 : DN (cxD P w K mg base N_opened "_law_opened" (defScope s__law_opened) f cdv A outer s0 H E) E ((retVals ((defBody s__law_opened).getD 3 (.Pass ⟨0, 0, 0, 0⟩))).getD 1 (.Constant .none 0 ⟨0, 0, 0, 0⟩)) _ :=
    dn_cat (de_var 2) (de_mul (de_lst (da_cons de_int da_nil)) (de_int1 rfl hi (da_cons (de_eq hr (de_var 2) (de_lst da_nil)) da_nil)))
  obtain ⟨t4, p4, r4⟩ := q4.sem
  refine ⟨_, pss_cons p1 (pss_cons p2 (pss_cons p3 (pss_one (ps_ret (pe_disp (pps_cons pe_str (pv 3) (pps_cons pe_str p4 (pps_cons pe_str pe_int pps_nil))) rfl rfl (by simp) (by show 3 ≤ 15; decide)))))), ?_⟩
  refine r1 _ fun S1 H1 p cells st1 g1 rp hpos hlen => ?_
  have rel1 : Rel H1 S1 H1 [some (.ref a), some (.ref p), none, none, none] [.no, .v (.ls (cells.map D.it)), .no, .no, .no] := (rel_no [some (.ref a), none, none, none, none]).put (i := 1) (x := .ref p) rp
  refine r2 ⟨S1, H1, S1.F, S1.bx⟩ { nx := fun env => ∃ sm : List Int, env = [.no, .v (.ls (cells.map D.it)), .v (.ls (sm.map D.it)), .no, .no] ∧ sm.length ≤ 61, rt := fun _ => False, ex := fun _ => False } _
    ⟨fun S2 σ2 env2 H2 a2 rel2 ⟨sm, e2, hsm⟩ => ?_, fun _ _ _ _ _ _ h => h.elim, fun _ _ _ _ _ _ h => h.elim, fun _ _ _ _ _ _ h => h.elim, xl_none, fun _ _ _ _ _ _ _ _ _ h => h.elim⟩ S1 _ _ H1 ⟨g1, .refl _ _, .refl _ _⟩ rel1 ?_
  · subst e2
    refine r3 ⟨S1, H1, S1.F, S1.bx⟩ { nx := fun env => ∃ gr : List Int, env = [.no, .v (.ls (cells.map D.it)), .v (.ls (sm.map D.it)), .own (gr.map D.it), .no] ∧ (∀ n ∈ gr, 0 ≤ n) ∧ gr.length ≤ 61, rt := fun _ => False, ex := fun _ => False } _
      ⟨fun S3 σ3 env3 H3 a3 rel3 ⟨gr, e3, hg0, hgr⟩ => ?_, fun _ _ _ _ _ _ h => h.elim, fun _ _ _ _ _ _ h => h.elim, fun _ _ _ _ _ _ h => h.elim, xl_none, fun _ _ _ _ _ _ _ _ _ h => h.elim⟩ S2 _ _ H2 a2 rel2 ?_
    · subst e3
      intro d hd
      obtain ⟨s0', g0⟩ := step_own a3.g (o := HO.dK []) hd
      have nbx : S3.bx = none := a3.p.box.trans st1.box
      have rel4 := rel3.step s0'
      obtain ⟨gg, us, u1, u2, u3, u4, u5, u6⟩ := rel4.at_ 3 _ rfl
      have := rpl_ints u6
      subst this
      refine ⟨_, u1, ?_⟩
      refine r4 H1 S3 _ σ3 _ _ (fun xs => ∃ ks : List Int, xs = ks.map D.it ∧ ks ≠ [] ∧ ks.length ≤ 200) (fun _ => False) g0 rel4 xl_none ?_ fun q H4 S4 vs xs st4 g4 q1 q2 q3 q4 q5 ⟨ks, ek, hk0, hk⟩ => ?_
      · -- small + [83] * int(small == [])
        simp only [dCatN, dVar, dOp, dLst, dCons, dNil, dC, dCB, oEq, oInt, oMul, List.getElem?_cons_succ, List.getElem?_cons_zero]
        refine ⟨by show 1 ≤ sizeLine; decide, by show 0 ≤ sizeLine; decide, cmp_ints_nil sm, ?_⟩
        rw [eq_ints_nil]
        by_cases hz : sm = []
        · subst hz
          rw [decide_eq_true rfl]
          refine ⟨by decide, by decide, by show 1 ≤ sizeLine; decide, by show 0 + 1 ≤ sizeLine; decide, [83], rfl, by simp, by show 1 ≤ 200; decide⟩
        · rw [decide_eq_false hz]
          refine ⟨by decide, by decide, by show 0 ≤ sizeLine; decide, by show (sm.map D.it).length + 0 ≤ sizeLine; rw [List.length_map, sizeLine_eq]; omega, sm, ?_, hz, by omega⟩
          show sm.map D.it ++ [] = _
          rw [List.append_nil]
      · subst ek
        have := rpl_ints q5
        subst this
        have hd4 : H4 d = some (.dK []) := st4.keep _ _ upd_same (fun z => by obtain ⟨x, ex, _⟩ := z; rw [nbx] at ex; cases ex)
        have hg4 : H4 gg = some (.lst (gr.map V.int)) := st4.keep _ _ u2 (fun z => by obtain ⟨x, ex, _⟩ := z; rw [nbx] at ex; cases ex)
        have hgd3 : gg ≠ d := fun z => by subst z; rw [upd_same] at u2; cases u2
        have hgq : gg ≠ q := fun z => by subst z; rw [u2] at q1; cases q1
        have hdq : d ≠ q := fun z => by subst z; rw [upd_same] at q1; cases q1
        refine ⟨hd4, [(kGreat, .ref gg), (kSmall, .ref q), (kTurn, .int 0)], rfl, by show 3 ≤ 15; decide, ?_⟩
        have em : mergeK [] [(kGreat, V.ref gg), (kSmall, V.ref q), (kTurn, V.int 0)] = [(kGreat, V.ref gg), (kSmall, V.ref q), (kTurn, V.int 0)] := by
          have h1 : ¬ (Str.ofString "great" = Str.ofString "turn") := by decide +kernel
          have h2 : ¬ (Str.ofString "small" = Str.ofString "turn") := by decide +kernel
          have h3 : ¬ (Str.ofString "great" = Str.ofString "small") := by decide +kernel
          simp [mergeK, putK, h1, h2, h3]
        rw [em]
        have all : ∀ b o, H b = some o → H3 b = some o := fun b o e => (st1.trans g1 a3.p).keep b o e (fun z => by obtain ⟨x, ex, _⟩ := z; cases ex)
        have free3 : ∀ b, H3 b = none → H b = none := fun b e => (st1.trans g1 a3.p).free a3.g e
        have hq3 : H3 q = none := s0'.free g0 q1
        refine k _ d gg q gr ks 0 ⟨upd_same, by rw [upd_ne hgd3]; exact hg4, by rw [upd_ne (Ne.symm hdq)]; exact q2, hgq, hg0, hk0, by omega, hk⟩ (fun b o e => ?_) (free3 d hd) (st1.free g1 u5) (free3 q hq3)
        have e3 := all b o e
        rw [upd_ne (ne_of_none e3 hd)]
        refine st4.keep _ _ (by rw [upd_ne (ne_of_none e3 hd)]; exact e3) (fun z => by obtain ⟨x, ex, _⟩ := z; rw [nbx] at ex; cases ex)
    · refine lc_filt (fun n => decide (10 ^ 18 ≤ n)) cells (fun n hn Y N h1 h2 => ?_) (by rw [sizeLine_eq]; omega) ⟨_, rfl, fun n hn => hpos n (List.mem_filter.mp hn).1, Nat.le_trans (List.length_filter_le _ _) hlen⟩
      refine ⟨⟨by decide, by decide, by decide⟩, ?_⟩
      show (match D.bl (decide ((10 : Int) ^ (18 : Int).toNat ≤ n)) with | .bl b => (match b with | true => Y (.it n) | false => N) | _ => False)
      by_cases hc : (10 : Int) ^ (18 : Int).toNat ≤ n
      · rw [decide_eq_true hc]; exact h1 (decide_eq_true hc)
      · rw [decide_eq_false hc]; exact h2 (decide_eq_false hc)
  · refine lc_filt (fun n => decide (n < 10 ^ 18)) cells (fun n hn Y N h1 h2 => ?_) (by rw [sizeLine_eq]; omega) ⟨_, rfl, Nat.le_trans (List.length_filter_le _ _) hlen⟩
    refine ⟨⟨by decide, by decide, by decide⟩, ?_⟩
    show (match D.bl (decide (n < (10 : Int) ^ (18 : Int).toNat)) with | .bl b => (match b with | true => Y (.it n) | false => N) | _ => False)
    by_cases hc : n < (10 : Int) ^ (18 : Int).toNat
    · rw [decide_eq_true hc]; exact h1 (decide_eq_true hc)
    · rw [decide_eq_false hc]; exact h2 (decide_eq_false hc)
end
abbrev Slip := Int × Int
abbrev House := Int × List Slip
structure OkPile (many : Int) (ss : List Slip) : Prop where
  len : ss.length ≤ 6
  to : ∀ s ∈ ss, 0 ≤ s.1 ∧ s.1 < many
  am : ∀ s ∈ ss, 1 ≤ s.2 ∧ s.2 ≤ 1000000000
structure OkBook (b : List House) : Prop where
  pos : 1 ≤ b.length
  len : b.length ≤ 6
  purse : ∀ h ∈ b, 0 ≤ h.1 ∧ h.1 ≤ 1000000000000
  pile : ∀ h ∈ b, OkPile b.length h.2
def sumA (ss : List Slip) : Int := (ss.map (·.2)).sum
theorem sumA_cons (s : Slip) (r : List Slip) : sumA (s :: r) = s.2 + sumA r := by simp [sumA]
theorem sumA_nonneg : ∀ {ss : List Slip}, (∀ s ∈ ss, 1 ≤ s.2 ∧ s.2 ≤ 1000000000) → 0 ≤ sumA ss ∧ sumA ss ≤ 1000000000 * ss.length
  | [], _ => by simp [sumA]
  | s :: r, h => by
    have h1 := h s (by simp)
    have h2 := sumA_nonneg (ss := r) fun x hx => h x (List.mem_cons_of_mem _ hx)
    rw [sumA_cons, List.length_cons]
    constructor
    · omega
    · have : (1000000000 : Int) * ((r.length + 1 : Nat) : Int) = 1000000000 * r.length + 1000000000 := by rw [Int.natCast_add]; omega
      omega
def PayOf : List House → List Int → Prop
  | [], [] => True
  | h :: b, p :: ps => 0 ≤ p ∧ p ≤ sumA h.2 ∧ PayOf b ps
  | _, _ => False
theorem PayOf.length : ∀ {b : List House} {ps : List Int}, PayOf b ps → ps.length = b.length
  | [], [], _ => rfl
  | _ :: b, _ :: ps, h => by rw [List.length_cons, List.length_cons, PayOf.length h.2.2]
  | [], _ :: _, h => h.elim
  | _ :: _, [], h => h.elim
abbrev W (α : Type) := (α → Prop) → EK → Prop
def pureW {α : Type} (x : α) : W α := fun Q _ => Q x
def bindW {α β : Type} (m : W α) (f : α → W β) : W β := fun Q E => m (fun x => f x Q E) E
def ifW {α : Type} (c : Bool) (a b : W α) : W α := fun Q E => if c = true then a Q E else b Q E
abbrev eI : Int → D := D.it
abbrev eB : Bool → D := D.bl
abbrev eS : Str → D := D.st
abbrev eA : D → D := fun d => d
def eL {α : Type} (e : α → D) (xs : List α) : D := .ls (xs.map e)
def eP {α β : Type} (e : α → D) (f : β → D) (p : α × β) : D := .tp [e p.1, f p.2]
def e3 {α β γ : Type} (e : α → D) (f : β → D) (g : γ → D) (p : α × β × γ) : D := .tp [e p.1, f p.2.1, g p.2.2]
def e4 {α β γ δ : Type} (e : α → D) (f : β → D) (g : γ → D) (h : δ → D) (p : α × β × γ × δ) : D := .tp [e p.1, f p.2.1, g p.2.2.1, h p.2.2.2]
def eQ {α β : Type} (e : α → D) (f : β → D) (p : α × β) : D := .ls [e p.1, f p.2]
abbrev SPat := List (Option Sl)
structure Me (ps : SPat) (env : Env') : Prop where
  len : env.length = ps.length
  at_ : ∀ (i : Nat) (s : Sl), ps[i]? = some (some s) → env[i]? = some s
theorem Me.set {ps : SPat} {env : Env'} (m : Me ps env) (i : Nat) (s : Sl) : Me (ps.set i (some s)) (env.set i s) where
  len := by rw [List.length_set, List.length_set]; exact m.len
  at_ := fun j t h => by
    by_cases hj : j = i
    · subst hj
      have hl : j < ps.length := by
        have := (List.getElem?_eq_some_iff.mp h).1
        rwa [List.length_set] at this
      rw [List.getElem?_set_self hl] at h
      rw [List.getElem?_set_self (by rw [m.len]; exact hl)]
      cases h; rfl
    · rw [List.getElem?_set_ne (Ne.symm hj)] at h ⊢
      exact m.at_ j t h
theorem Me.hide {ps : SPat} {env : Env'} (m : Me ps env) (i : Nat) (s : Sl) : Me (ps.set i none) (env.set i s) where
  len := by rw [List.length_set, List.length_set]; exact m.len
  at_ := fun j t h => by
    by_cases hj : j = i
    · subst hj
      have hl : j < ps.length := by
        have := (List.getElem?_eq_some_iff.mp h).1
        rwa [List.length_set] at this
      rw [List.getElem?_set_self hl] at h
      cases h
    · rw [List.getElem?_set_ne (Ne.symm hj)] at h ⊢
      exact m.at_ j t h
def PSub : SPat → SPat → Prop
  | [], [] => True
  | none :: qs, _ :: ps => PSub qs ps
  | some s :: qs, p :: ps => p = some s ∧ PSub qs ps
  | _, _ => False
theorem Me.sub : ∀ {qs ps : SPat} {env : Env'}, PSub qs ps → Me ps env → Me qs env
  | [], [], _, _, m => m
  | none :: qs, p :: ps, [], _, m => by have := m.len; simp at this
  | none :: qs, p :: ps, e :: env, h, m => by
    have m' : Me ps env := ⟨by have := m.len; simpa using this, fun i s q => by have := m.at_ (i + 1) s (by simpa using q); simpa using this⟩
    have k := Me.sub (qs := qs) h m'
    refine ⟨by simp [k.len], fun i s q => ?_⟩
    cases i with
    | zero => simp at q
    | succ i => simpa using k.at_ i s (by simpa using q)
  | some t :: qs, p :: ps, [], h, m => by have := m.len; simp at this
  | some t :: qs, p :: ps, e :: env, h, m => by
    have m' : Me ps env := ⟨by have := m.len; simpa using this, fun i s q => by have := m.at_ (i + 1) s (by simpa using q); simpa using this⟩
    have k := Me.sub (qs := qs) h.2 m'
    refine ⟨by simp [k.len], fun i s q => ?_⟩
    cases i with
    | zero =>
      have e1 := m.at_ 0 t (by simp [h.1])
      simp at q; subst q; exact e1
    | succ i => simpa using k.at_ i s (by simpa using q)
def patOf (env : Env') : SPat := env.map some
theorem me_of (env : Env') : Me (patOf env) env := ⟨by simp [patOf], fun i s h => by
  unfold patOf at h
  rw [List.getElem?_map] at h
  cases e : env[i]? with
  | none => rw [e] at h; cases h
  | some t => rw [e] at h; simp at h; rw [h]⟩
def wipeP (ps : SPat) : List Nat → SPat
  | [] => ps
  | v :: vs => (wipeP ps vs).set v none
theorem Me.wipe {ps : SPat} {env : Env'} (m : Me ps env) : ∀ vs, Me (wipeP ps vs) (wipeD env vs)
  | [] => m
  | v :: vs => (Me.wipe m vs).hide v .no
def TE {α : Type} (ps : SPat) (d : DT_) (e : α → D) (w : W α) : Prop := ∀ env, Me ps env → ∀ (Q : DK) (E : EK) (R : α → Prop), (∀ r, R r → Q (e r)) → w R E → d env Q E
def TB (ps : SPat) (t : DB_) (w : W Bool) : Prop := ∀ env, Me ps env → ∀ (Q : Bool → Prop) (E : EK) (R : Bool → Prop), (∀ r, R r → Q r) → w R E → t env Q E
def TL {α : Type} (ps : SPat) (u : DA_) (e : α → D) (w : W (List α)) : Prop := ∀ env, Me ps env → ∀ (Q : List D → Prop) (E : EK) (R : List α → Prop), (∀ xs, R xs → Q (xs.map e)) → w R E → u env Q E
def TI {α : Type} (ps : SPat) (d : DI_) (e : α → D) (w : W (List α)) : Prop := ∀ env, Me ps env → ∀ (Q : List D → Prop) (E : EK) (R : List α → Prop), (∀ xs, R xs → Q (xs.map e)) → w R E → d env Q E
def TN {α : Type} (ps : SPat) (d : DN_) (e : α → D) (w : W (List α)) : Prop := ∀ env, Me ps env → ∀ (Q : List D → Prop) (E : EK) (R : List α → Prop), (∀ xs, R xs → Q (xs.map e)) → w R E → d env Q E
def TG (ps : SPat) (dg : DG_) (x : D) (ps1 : SPat) : Prop := ∀ env Q, Me ps env → (∀ env', Me ps1 env' → Q env') → dg x env Q
def TGs (ps : SPat) (dg : List D → Env' → (Env' → Prop) → Prop) (xs : List D) (ps1 : SPat) : Prop := ∀ env Q, Me ps env → (∀ env', Me ps1 env' → Q env') → dg xs env Q
section
variable {α β γ δ : Type} {ps : SPat} {da db dc : DT_} {e : α → D} {f : β → D} {g : γ → D} {wa : W α} {wb : W β} {wc : W γ} {ta tb : DB_} {wt wu : W Bool} {u : DA_}
theorem te_var (i : Nat) {x : α} (h : ps[i]? = some (some (.v (e x)))) : TE ps (dVar i) e (pureW x) := fun env m Q E R hr q => by
  unfold dVar; rw [m.at_ i _ h]; exact hr _ q
theorem te_int (n : Int) : TE ps (dC (.it n)) eI (pureW n) := fun env m Q E R hr q => hr _ q
theorem te_bl (n : Bool) : TE ps (dC (.bl n)) eB (pureW n) := fun env m Q E R hr q => hr _ q
theorem te_co {e' : β → D} (c : α → β) (h : ∀ x, e x = e' (c x)) (ha : TE ps da e wa) : TE ps da e' (bindW wa fun x => pureW (c x)) := fun env m Q E R hr q =>
  ha env m Q E _ (fun r k => by rw [h r]; exact hr _ k) q
def Op2 (o : D → D → DK → Prop) (e : α → D) (f : β → D) (g : γ → D) (op : α → β → W γ) : Prop := ∀ x y (Q : DK) E (R : γ → Prop), (∀ r, R r → Q (g r)) → op x y R E → o (e x) (f y) Q
theorem te_op {o : D → D → DK → Prop} {op : α → β → W γ} (h : Op2 o e f g op) (ha : TE ps da e wa) (hb : TE ps db f wb) : TE ps (dOp o da db) g (bindW wa fun x => bindW wb fun y => op x y) := fun env m Q E R hr q =>
  ha env m _ E _ (fun x q => hb env m _ E _ (fun y q => h x y Q E R hr q) q) q
def powI (x y : Int) : W Int := fun Q _ => CPow x y ∧ Q (x ^ y.toNat)
def catW (x y : List α) : W (List α) := fun Q _ => szOk (x.length + y.length) ∧ Q (x ++ y)
theorem o_pow : Op2 oPow eI eI eI powI := fun x y Q E R hr q => ⟨q.1, hr _ q.2⟩
theorem o_catL : Op2 oAdd (eL e) (eL e) (eL e) catW := fun x y Q E R hr q => ⟨by simpa using q.1, by have := hr _ q.2; unfold eL at this; rw [List.map_append] at this; exact this⟩
def ixW (xs : List α) (i : Int) : W α := fun Q _ => ∃ x, atI xs i = some x ∧ Q x
theorem atI_map (e : α → D) (xs : List α) (i : Int) : atI (xs.map e) i = (atI xs i).map e := by
  unfold atI
  rw [List.length_map]
  cases ixN xs.length i with
  | none => rfl
  | some j => simp
theorem o_ixL : Op2 oIx (eL e) eI e ixW := fun x y Q E R hr q => by
  obtain ⟨z, h, k⟩ := q
  show match atI (x.map e) y with | some d => Q d | none => False
  rw [atI_map, h]; exact hr _ k
end
section
variable {α β γ δ ε ζ η : Type} {ps : SPat} {da db dc dd d5 d6 : DT_} {e : α → D} {f : β → D} {g : γ → D} {h : δ → D} {wa : W α} {wb : W β} {wc : W γ} {wd : W δ} {ta tb : DB_} {wt wu : W Bool} {u : DA_}
theorem tl_nil : TL ps dNil e (pureW []) := fun env m Q E R hr q => hr [] q
theorem tl_cons {wu : W (List α)} (ha : TE ps da e wa) (hu : TL ps u e wu) : TL ps (dCons da u) e (bindW wa fun x => bindW wu fun xs => pureW (x :: xs)) := fun env m Q E R hr q =>
  ha env m _ E _ (fun x q => hu env m _ E _ (fun xs q => hr (x :: xs) q) q) q
def szW (xs : List α) : W (List α) := fun Q _ => szOk xs.length ∧ Q xs
theorem te_lstL {wu : W (List α)} (hu : TL ps u e wu) : TE ps (dLst u) (eL e) (bindW wu szW) := fun env m Q E R hr q =>
  hu env m _ E _ (fun xs q => ⟨by rw [List.length_map]; exact q.1, hr xs q.2⟩) q
theorem te_lst2 (ha : TE ps da e wa) (hb : TE ps db f wb) : TE ps (dLst (dCons da (dCons db dNil))) (eQ e f) (bindW wa fun x => bindW wb fun y => pureW (x, y)) := fun env m Q E R hr q =>
  ha env m _ E _ (fun x q => hb env m _ E _ (fun y q => ⟨szl2, hr (x, y) q⟩) q) q
def Op1 (o : List D → DK → Prop) (e : α → D) (g : γ → D) (op : α → W γ) : Prop := ∀ x (Q : DK) E (R : γ → Prop), (∀ r, R r → Q (g r)) → op x R E → o [e x] Q
theorem te_cb1 {o} {op : α → W γ} (ho : Op1 o e g op) (ha : TE ps da e wa) : TE ps (dCB o (dCons da dNil)) g (bindW wa op) := fun env m Q E R hr q =>
  ha env m _ E _ (fun x q => ho x Q E R hr q) q
def reprW (d : D) : W Str := fun Q _ => Fit d ∧ Q d.py.shown
theorem o_repr : Op1 oRepr e eS (fun x => reprW (e x)) := fun x Q E R hr q => ⟨q.1, hr _ q.2⟩
theorem te_and {wa wb : W Bool} (ha : TE ps da eB wa) (hb : TE ps db eB wb) : TE ps (dAndV da db) eB (bindW wa fun c => ifW c wb (pureW false)) := fun env m Q E R hr q =>
  ha env m _ E _ (fun c q => by
    cases c with
    | true => exact hb env m Q E R hr (by simpa [ifW] using q)
    | false => exact hr false (by simpa [ifW, pureW] using q)) q
theorem tb_tst {wa : W Bool} (ha : TE ps da eB wa) : TB ps (dTst da) wa := fun env m Q E R hr q => ha env m _ E _ (fun c q => hr c q) q
theorem tb_or (ha : TB ps ta wt) (hb : TB ps tb wu) : TB ps (dOr ta tb) (bindW wt fun c => ifW c (pureW true) wu) := fun env m Q E R hr q =>
  ha env m _ E _ (fun c q => by
    cases c with
    | false => exact hb env m Q E R hr (by simpa [ifW] using q)
    | true => exact hr true (by simpa [ifW, pureW] using q)) q
theorem tb_not (ha : TB ps ta wt) : TB ps (dNot ta) (bindW wt fun c => pureW (!c)) := fun env m Q E R hr q => ha env m _ E _ (fun c q => hr _ q) q
theorem tb_yes : TB ps dYes (pureW true) := fun env m Q E R hr q => hr _ q
variable {dl dh : DO_} {wl wh : W (Option Int)}
end
structure EqE {α : Type} (e : α → D) : Prop where
  plain : ∀ x, plainD (e x) = true
  deep : ∃ n, n ≤ 20 ∧ ∀ x, deep (e x) ≤ n
  inj : ∀ x y, eqD (e x) (e y) = true ↔ x = y
structure EqN {α : Type} (n : Nat) (e : α → D) : Prop where
  plain : ∀ x, plainD (e x) = true
  deep : ∀ x, deep (e x) ≤ n
  inj : ∀ x y, eqD (e x) (e y) = true ↔ x = y
section
variable {α β γ δ : Type} {e : α → D} {f : β → D} {g : γ → D} {h : δ → D} {n m k l : Nat}
theorem eq_I : EqN 0 eI := ⟨fun _ => rfl, fun _ => by simp [deep], fun x y => by show (x == y) = true ↔ _; exact beq_iff_eq⟩
theorem eq_S : EqN 0 eS := ⟨fun _ => rfl, fun _ => by simp [deep], fun x y => by show (x == y) = true ↔ _; exact beq_iff_eq⟩
theorem plain_map (h : ∀ x, plainD (e x) = true) : ∀ xs : List α, plainDL (xs.map e) = true
  | [] => rfl
  | x :: r => by simp only [List.map_cons, plainDL, h x, plain_map h r, Bool.and_self]
theorem deep_map (h : ∀ x, deep (e x) ≤ n) : ∀ xs : List α, deepL (xs.map e) ≤ n
  | [] => by simp [deepL]
  | x :: r => by simp only [List.map_cons, deepL]; have := h x; have := deep_map h r; omega
theorem eqv_map (h : ∀ x y, eqD (e x) (e y) = true ↔ x = y) : ∀ xs ys : List α, PyData.eqvAll (pyL (xs.map e)) (pyL (ys.map e)) = true ↔ xs = ys
  | [], [] => by simp [pyL, PyData.eqvAll]
  | [], _ :: _ => by simp [pyL, PyData.eqvAll]
  | _ :: _, [] => by simp [pyL, PyData.eqvAll]
  | x :: xs, y :: ys => by
    have ih := eqv_map h xs ys
    have hx := h x y
    unfold eqD at hx
    simp only [List.map_cons, pyL, PyData.eqvAll, Bool.and_eq_true, hx, ih, List.cons.injEq]
theorem eq_L (h : EqN n e) : EqN (n + 1) (eL e) := ⟨fun xs => by simp only [eL, plainD]; exact plain_map h.plain xs, fun xs => by simp only [eL, deep]; have := deep_map h.deep xs; omega, fun xs ys => by
  show PyData.eqv (.list (pyL (xs.map e))) (.list (pyL (ys.map e))) = true ↔ _
  rw [PyData.eqv]; exact eqv_map h.inj xs ys⟩
def eqW [DecidableEq α] (x y : α) : W Bool := pureW (decide (x = y))
def neW [DecidableEq α] (x y : α) : W Bool := pureW (!decide (x = y))
theorem EqN.dec [DecidableEq α] (h : EqN n e) (x y : α) : eqD (e x) (e y) = decide (x = y) := by
  have := h.inj x y
  cases q : eqD (e x) (e y) with
  | true => rw [q] at this; exact (decide_eq_true (this.mp rfl)).symm
  | false => rw [q] at this; exact (decide_eq_false fun z => by have := this.mpr z; cases this).symm
theorem EqN.cmp (h : EqN n e) (hn : n ≤ 20) (x y : α) : cmpOk (e x) (e y) := ⟨h.plain x, h.plain y, by have := h.deep x; omega⟩
theorem o_eq [DecidableEq α] (h : EqN n e) (hn : n ≤ 20) (hi : ∀ x j, e x ≠ .it j) : Op2 oEq e e eB eqW := fun x y Q E R hr q => by
  have k := hr _ q
  unfold oEq
  split
  · next j ej => exact (hi _ _ ej).elim
  · exact ⟨h.cmp hn x y, by rw [h.dec]; exact k⟩
theorem o_ne [DecidableEq α] (h : EqN n e) (hn : n ≤ 20) (hi : ∀ x j, e x ≠ .it j) : Op2 oNe e e eB neW := fun x y Q E R hr q => by
  have k := hr _ q
  unfold oNe
  split
  · next j ej => exact (hi _ _ ej).elim
  · exact ⟨h.cmp hn x y, by rw [h.dec]; exact k⟩
def eqA (x y : D) : W Bool := fun Q _ => match y with | .it j => isBx x = false ∧ Q (eqIt x j) | y => cmpOk x y ∧ Q (eqD x y)
def neA (x y : D) : W Bool := fun Q _ => match y with | .it j => isBxDc x = false ∧ Q (!eqIt x j) | y => cmpOk x y ∧ Q (!eqD x y)
theorem o_eqA : Op2 oEq eA eA eB eqA := fun x y Q E R hr q => by
  cases y <;> exact ⟨q.1, hr _ q.2⟩
theorem o_neA : Op2 oNe eA eA eB neA := fun x y Q E R hr q => by
  cases y <;> exact ⟨q.1, hr _ q.2⟩
end
section
variable {α β γ : Type} {ps : SPat} {da db : DT_} {e : α → D} {f : β → D} {g : γ → D} {u : DA_}
theorem ti_L {w : W (List α)} (ha : TE ps da (eL e) w) : TI ps (dSeqI da) e w := fun env m Q E R hr q => ha env m _ E _ (fun xs q => hr xs q) q
def rgI (lo : Int) (n : Nat) : List Int := (List.range n).map fun (j : Nat) => lo + (j : Int)
theorem rgD_map (lo : Int) (n : Nat) : rgD lo n = (rgI lo n).map eI := by unfold rgD rgI; rw [List.map_map]; rfl
def rng1W (j : Int) : W (List Int) := fun Q _ => in62 j ∧ Q (rgI 0 j.toNat)
theorem ti_rng1 {w : W Int} (ha : TE ps da eI w) : TI ps (dRng1 (dCons da dNil)) eI (bindW w rng1W) := fun env m Q E R hr q =>
  ha env m _ E _ (fun j q => ⟨q.1, by have := hr _ q.2; rw [← rgD_map] at this; exact this⟩) q
def enI (xs : List α) : List (Int × α) := xs.zipIdx.map fun p => ((p.2 : Int), p.1)
theorem enD_map (xs : List α) : enD (xs.map e) = (enI xs).map (eP eI e) := by
  unfold enD enI
  rw [List.map_map]
  apply List.ext_getElem?
  intro i
  rw [List.getElem?_map, List.getElem?_map, List.getElem?_zipIdx, List.length_map]
  by_cases h : i < xs.length
  · rw [List.getElem?_range h, List.getElem?_eq_getElem h]
    simp [eP, h]
  · rw [List.getElem?_eq_none_iff.mpr (by simpa using h), List.getElem?_eq_none_iff.mpr (by simpa using h)]; rfl
theorem ti_enL {w : W (List α)} (ha : TE ps da (eL e) w) : TI ps (dEnum (dCons da dNil)) (eP eI e) (bindW w fun xs => pureW (enI xs)) := fun env m Q E R hr q =>
  ha env m _ E _ (fun xs q => by have := hr _ q; rw [← enD_map] at this; exact this) q
theorem tg_name (i : Nat) {d : D} : TG ps (dgName i) d (ps.set i (some (.v d))) := fun env Q m k => k _ (m.set i (.v d))
theorem tgs_nil : TGs ps dgNil [] ps := fun env Q m k => k _ m
theorem tgs_cons {dg : DG_} {us : List D → Env' → (Env' → Prop) → Prop} {x : D} {xs : List D} {ps1 ps2 : SPat} (h1 : TG ps dg x ps1) (h2 : TGs ps1 us xs ps2) : TGs ps (dgCons dg us) (x :: xs) ps2 := fun env Q m k =>
  h1 env _ m fun env1 m1 => h2 env1 Q m1 k
theorem tg_tup {n : Nat} {us : List D → Env' → (Env' → Prop) → Prop} {xs : List D} {ps1 : SPat} (hn : xs.length = n) (h : TGs ps us xs ps1) : TG ps (dgTup n us) (.tp xs) ps1 := fun env Q m k => ⟨hn, h env Q m k⟩
theorem tg_lst {n : Nat} {us : List D → Env' → (Env' → Prop) → Prop} {xs : List D} {ps1 : SPat} (hn : xs.length = n) (h : TGs ps us xs ps1) : TG ps (dgLst n us) (.ls xs) ps1 := fun env Q m k => ⟨hn, h env Q m k⟩
def lcP (t : α → W Bool) (h : α → W β) (E : EK) : List α → List β → (List β → Prop) → Prop
  | [], acc, Q => Q acc
  | x :: xs, acc, Q => t x (fun b => if b = true then h x (fun y => lcP t h E xs (acc ++ [y]) Q) E else lcP t h E xs acc Q) E
def lcW (t : α → W Bool) (h : α → W β) (xs : List α) : W (List β) := fun Q _ => xs.length ≤ sizeLine ∧ lcP t h (fun _ => False) xs [] Q
theorem lcD_P {dg : DG_} {tt : DB_} {te : DT_} {env : Env'} {Q : List D → Prop} {R : List β → Prop} {t : α → W Bool} {h : α → W β} {ps : SPat} {ps1 : α → SPat} (hg : ∀ x, TG ps dg (e x) (ps1 x)) (ht : ∀ x, TB (ps1 x) tt (t x)) (hh : ∀ x, TE (ps1 x) te f (h x)) (m : Me ps env)
    (hr : ∀ ys, R ys → Q (ys.map f)) : ∀ (xs : List α) (acc : List β), acc.length + xs.length ≤ sizeLine → lcP t h (fun _ => False) xs acc R → lcD dg tt te env (fun _ => False) Q (xs.map e) (acc.map f)
  | [], acc, _, q => hr acc q
  | x :: xs, acc, hl, q => by
    have hl' : acc.length + (xs.length + 1) ≤ sizeLine := by simpa using hl
    rw [List.map_cons]
    show dg (e x) env fun env1 => tt env1 (fun b => match b with | true => te env1 (fun y => (acc.map f).length < sizeLine ∧ lcD dg tt te env (fun _ => False) Q (xs.map e) (acc.map f ++ [y])) (fun _ => False) | false => lcD dg tt te env (fun _ => False) Q (xs.map e) (acc.map f)) (fun _ => False)
    refine hg x env _ m fun env1 m1 => ht x env1 m1 _ _ _ (fun b qb => ?_) q
    cases b with
    | true =>
      refine hh x env1 m1 _ _ (fun y => lcP t h (fun _ => False) xs (acc ++ [y]) R) (fun y qy => ⟨by rw [List.length_map]; omega, ?_⟩) (by simpa using qb)
      have := lcD_P hg ht hh m hr xs (acc ++ [y]) (by simp; omega) qy
      rw [List.map_append] at this
      exact this
    | false => exact lcD_P hg ht hh m hr xs acc (by omega) (by simpa using qb)
theorem tn_lc {di : DI_} {dg : DG_} {tt : DB_} {te : DT_} {vs : List Nat} {w : W (List α)} {t : α → W Bool} {h : α → W β} {ps1 : α → SPat} (hi : TI ps di e w) (hg : ∀ x, TG (wipeP ps vs) dg (e x) (ps1 x)) (ht : ∀ x, TB (ps1 x) tt (t x)) (hh : ∀ x, TE (ps1 x) te f (h x)) :
    TN ps (dLc di dg tt te vs) f (bindW w fun xs => lcW t h xs) := fun env m Q E R hr q =>
  hi env m _ E _ (fun xs q => lcD_P hg ht hh (m.wipe vs) hr xs [] (by simpa using q.1) q.2) q
theorem ni_L (x : List α) (j : Int) : eL e x ≠ .it j := fun h => by unfold eL at h; cases h
theorem ni_S (x : Str) (j : Int) : eS x ≠ .it j := fun h => by cases h
theorem te_frz {dn : DN_} {w : W (List α)} (h : TN ps dn e w) : TE ps (dFrz dn) (eL e) w := fun env m Q E R hr q => h env m _ E R (fun xs q => hr xs q) q
theorem tn_lst {w : W (List α)} (h : TL ps u e w) : TN ps (dLstN u) e (bindW w szW) := fun env m Q E R hr q => h env m _ E _ (fun xs q => ⟨by rw [List.length_map]; exact q.1, hr xs q.2⟩) q
theorem tn_cat {w w' : W (List α)} (ha : TE ps da (eL e) w) (hb : TE ps db (eL e) w') : TN ps (dCatN da db) e (bindW w fun x => bindW w' fun y => catW x y) := fun env m Q E R hr q =>
  ha env m _ E _ (fun x q => hb env m _ E _ (fun y q => ⟨by simpa using q.1, by have := hr _ q.2; rw [List.map_append] at this; exact this⟩) q) q
theorem te_call1 {ρ : Type} {er : ρ → D} {sp : SpD} {α0 : Type} {e0 : α0 → D} {d0 : DT_} {w0 : W α0} {t : α0 → W ρ} (h : ∀ x0 (Q : DK) E (R : ρ → Prop), (∀ r, R r → Q (er r)) → t x0 R E → sp [e0 x0] Q E)
    (a0 : TE ps d0 e0 w0) : TE ps (dCall sp (dCons d0 dNil)) er (bindW w0 fun x0 => t x0) := fun env m Q E R hr q => a0 env m _ E _ (fun x0 q => h x0 Q E R hr q) q
theorem te_call2 {ρ : Type} {er : ρ → D} {sp : SpD} {α0 : Type} {e0 : α0 → D} {d0 : DT_} {w0 : W α0} {α1 : Type} {e1 : α1 → D} {d1 : DT_} {w1 : W α1} {t : α0 → α1 → W ρ} (h : ∀ x0 x1 (Q : DK) E (R : ρ → Prop), (∀ r, R r → Q (er r)) → t x0 x1 R E → sp [e0 x0, e1 x1] Q E)
    (a0 : TE ps d0 e0 w0) (a1 : TE ps d1 e1 w1) : TE ps (dCall sp (dCons d0 (dCons d1 dNil))) er (bindW w0 fun x0 => bindW w1 fun x1 => t x0 x1) := fun env m Q E R hr q => a0 env m _ E _ (fun x0 q => a1 env m _ E _ (fun x1 q => h x0 x1 Q E R hr q) q) q
end
def TS (ps : SPat) (d : DS_) (De : DEnds) (P : Prop) : Prop := ∀ env, Me ps env → P → d De env
def NX {σ : Type} (nx : Env' → Prop) (psJ : σ → SPat) (K : σ → Prop) : Prop := ∀ s env, Me (psJ s) env → K s → nx env
section
variable {α β γ σ τ : Type} {ps : SPat} {de di : DT_} {d u d1 d2 : DS_} {De : DEnds} {e : α → D} {f : β → D} {w : W α} {w' : W β} {P : Prop} {psJ psL : σ → SPat} {K : σ → Prop}
def bindP (w : W α) (k : α → Prop) (E : EK) : Prop := w k E
def ifP (b : Bool) (P Q : Prop) : Prop := if b = true then P else Q
def joinP (f : (σ → Prop) → Prop) (k : σ → Prop) : Prop := f k
theorem ts_fall (h : NX De.nx psJ K) (s : σ) (hs : PSub (psJ s) ps) : TS ps dNext De (K s) := fun env m p => h s env (m.sub hs) p
theorem ts_last (h : TS ps (dSeq d dNext) De P) : TS ps d De P := fun env m p => h env m p
theorem ts_seq0 (h : TS ps d { De with nx := u De } P) : TS ps (dSeq d u) De P := fun env m p => h env m p
theorem ts_ret {R : α → Prop} (hr : ∀ r, R r → De.rt (e r)) (h : TE ps de e w) : TS ps (dRet de) De (w R De.ex) := fun env m p => h env m _ _ _ hr p
theorem ts_via (h : TS ps u De P) : TS ps dNext { De with nx := u De } P := fun env m p => h env m p
theorem ts_set (i : Nat) {k : α → Prop} (h : TE ps de e w) (hk : ∀ x, TS (ps.set i (some (.v (e x)))) u De (k x)) : TS ps (dSeq (dSet i de) u) De (bindP w k De.ex) := fun env m p =>
  h env m _ _ _ (fun x q => hk x _ (m.set i _) q) p
theorem ts_setN (i : Nat) {k : List α → Prop} {dn : DN_} {w : W (List α)} (h : TN ps dn e w) (hk : ∀ x, TS (ps.set i (some (.v (eL e x)))) u De (k x)) : TS ps (dSeq (dSetN i dn) u) De (bindP w k De.ex) := fun env m p =>
  h env m _ _ _ (fun x q => hk x _ (m.set i (.v (.ls (x.map e)))) q) p
theorem ts_setO (i : Nat) {k : List α → Prop} {dn : DN_} {w : W (List α)} (h : TN ps dn e w) (hk : ∀ x, TS (ps.set i (some (.own (x.map e)))) u De (k x)) : TS ps (dSeq (dSetO i dn) u) De (bindP w k De.ex) := fun env m p =>
  h env m _ _ _ (fun x q => hk x _ (m.set i _) q) p
theorem ts_asg {k : α → Prop} {dg : DG_} {ps1 : α → SPat} (h : TE ps de e w) (hg : ∀ x, TG ps dg (e x) (ps1 x)) (hk : ∀ x, TS (ps1 x) u De (k x)) : TS ps (dSeq (dAsg de dg) u) De (bindP w k De.ex) := fun env m p =>
  h env m _ _ _ (fun x q => hg x _ _ m fun env1 m1 => hk x env1 m1 q) p
theorem ts_par (i j : Nat) {d1 d2 : DT_} {k : α → β → Prop} (h : TE ps d1 e w) (h' : TE ps d2 f w') (hk : ∀ x y, TS ((ps.set i (some (.v (e x)))).set j (some (.v (f y)))) u De (k x y)) :
    TS ps (dSeq (dPar i j (dCons d1 (dCons d2 dNil))) u) De (bindP w (fun x => bindP w' (fun y => k x y) De.ex) De.ex) := fun env m p =>
  h env m _ _ _ (fun x q => h' env m _ _ _ (fun y q => hk x y _ ((m.set i _).set j _) q) q) p
def appP (xs : List α) (P : Prop) : Prop := xs.length < sizeLine ∧ P
theorem ts_app (i : Nat) {xs : List α} {k : α → Prop} (hp : ps[i]? = some (some (.own (xs.map e)))) (h : TE ps de e w) (hk : ∀ x, TS (ps.set i (some (.own ((xs ++ [x]).map e)))) u De (k x)) : TS ps (dSeq (dApp i de) u) De (bindP w (fun x => appP xs (k x)) De.ex) := fun env m p => by
  show dApp i de _ env
  unfold dApp
  rw [m.at_ i _ hp]
  exact h env m _ _ _ (fun x q => ⟨by rw [List.length_map]; exact q.1, by
    have := hk x _ (m.set i _) q.2
    rw [List.map_append] at this; exact this⟩) p
theorem ts_frz (i : Nat) {xs : List α} (hp : ps[i]? = some (some (.own (xs.map e)))) (h : TS (ps.set i (some (.v (eL e xs)))) (dSeq d u) De P) : TS ps (dSeq (dFrzS i d) u) De P := fun env m p => by
  show dFrzS i d _ env
  unfold dFrzS
  rw [m.at_ i _ hp]
  exact h _ (m.set i _) p
theorem ts_frz1 (i : Nat) {xs : List α} (hp : ps[i]? = some (some (.own (xs.map e)))) (h : TS (ps.set i (some (.v (eL e xs)))) d De P) : TS ps (dFrzS i d) De P := fun env m p => by
  unfold dFrzS
  rw [m.at_ i _ hp]
  exact h _ (m.set i _) p
theorem ts_if {t : DB_} {wt : W Bool} {P Q : Prop} (ht : TB ps t wt) (h1 : TS ps d1 De P) (h2 : TS ps d2 De Q) : TS ps (dIfS t d1 d2) De (bindP wt (fun b => ifP b P Q) De.ex) := fun env m p =>
  ht env m _ _ _ (fun b q => by
    cases b with
    | true => exact h1 env m (by simpa [ifP] using q)
    | false => exact h2 env m (by simpa [ifP] using q)) p
def forP (body : α → σ → (σ → Prop) → (σ → Prop) → Prop) (K : σ → Prop) : List α → σ → Prop
  | [], s => K s
  | x :: xs, s => body x s (forP body K xs) K
theorem forD_P {dg : DG_} {db : DS_} {body : α → σ → (σ → Prop) → (σ → Prop) → Prop} {ps1 : α → σ → SPat} (hg : ∀ x s, TG (psL s) dg (e x) (ps1 x s))
    (hb : ∀ x s (N : σ → Prop) (nx : Env' → Prop), NX nx psL N → TS (ps1 x s) db { De with nx := nx, ct := nx, bk := De.nx } (body x s N K)) (hk : NX De.nx psL K) : ∀ (xs : List α) (s : σ) (env : Env'), Me (psL s) env → forP body K xs s → forD dg db De (xs.map e) env
  | [], s, env, m, p => hk s env m p
  | x :: xs, s, env, m, p => by
    rw [List.map_cons]
    show dg (e x) env fun env1 => db { De with nx := forD dg db De (xs.map e), ct := forD dg db De (xs.map e), bk := De.nx } env1
    exact hg x s env _ m fun env1 m1 => hb x s _ _ (fun s' env' m' q => forD_P hg hb hk xs s' env' m' q) env1 m1 p
theorem ts_for {dI : DI_} {dg : DG_} {db : DS_} {wi : W (List α)} {body : α → σ → (σ → Prop) → (σ → Prop) → Prop} {ps1 : α → σ → SPat} (psL : σ → SPat) (s0 : σ) (hi : TI ps dI e wi) (hs : PSub (psL s0) ps) (hg : ∀ x s, TG (psL s) dg (e x) (ps1 x s))
    (hb : ∀ x s (N : σ → Prop) (nx : Env' → Prop), NX nx psL N → TS (ps1 x s) db { De with nx := nx, ct := nx, bk := u De } (body x s N K)) (hr : ∀ s, TS (psL s) u De (K s)) :
    TS ps (dSeq (dFor dI dg db) u) De (bindP wi (fun xs => forP body K xs s0) De.ex) := fun env m p =>
  hi env m _ _ _ (fun xs q => forD_P (De := { De with nx := u De }) hg hb (fun s env m q => hr s env m q) xs s0 env (m.sub hs) q) p
end
section
variable {α β γ : Type} {ps : SPat} {da db dc : DT_} {e : α → D} {f : β → D} {g : γ → D} {u : DA_}
end
section
variable {α β γ σ τ : Type} {ps : SPat} {de di : DT_} {d u d1 d2 : DS_} {De : DEnds} {e : α → D} {f : β → D} {w : W α} {w' : W β} {P : Prop}
theorem ts_par3 (i j l : Nat) {γ : Type} {g : γ → D} {w'' : W γ} {d1 d2 d3 : DT_} {k : α → β → γ → Prop} (h : TE ps d1 e w) (h' : TE ps d2 f w') (h'' : TE ps d3 g w'') (hk : ∀ x y z, TS (((ps.set i (some (.v (e x)))).set j (some (.v (f y)))).set l (some (.v (g z)))) u De (k x y z)) :
    TS ps (dSeq (dPar3 i j l (dCons d1 (dCons d2 (dCons d3 dNil)))) u) De (bindP w (fun x => bindP w' (fun y => bindP w'' (fun z => k x y z) De.ex) De.ex) De.ex) := fun env m p =>
  h env m _ _ _ (fun x q => h' env m _ _ _ (fun y q => h'' env m _ _ _ (fun z q => hk x y z _ (((m.set i _).set j _).set l _) q) q) q) p
end
def eqB {α : Type} [DecidableEq α] (x y : α) : Bool := decide (x = y)
def inB {α : Type} [DecidableEq α] (x : α) (xs : List α) : Bool := decide (x ∈ xs)
section
variable {ps : SPat} {ρ : Type} {er : ρ → D} {sp : SpD}
end
section
variable {ps : SPat} {da db dc : DT_}
end
section
variable {ps : SPat} {da : DT_}
end
section
variable {α : Type} {ps : SPat} {de : DT_} {u : DS_} {De : DEnds} {e : α → D}
end
section
variable {P : Program} {w : World} {K : PySem.W.Frag} {mg : Str → Option Value} {base : Heap} {k : Nat}
end
section
variable {α β : Type} {ps : SPat} {da db de : DT_} {ta : DB_} {wt : W Bool} {w wa wb : W α} {e : α → D} {u : DS_} {De : DEnds}
end
section
variable {α β : Type} {ps : SPat} {e : α → D} {f : β → D}
end
section
variable {ps : SPat} {de : DT_} {u : DS_} {De : DEnds} {w : W Int}
end
section
variable {ps : SPat} {da : DT_}
end
section
variable {ps : SPat} {α β γ : Type} {e : α → D} {f : β → D} {g : γ → D} {u : DS_} {De : DEnds}
end
section
variable {ps : SPat} {da : DT_}
end
def fldXW (f : Str) (x : D) : W D := fun Q _ => match x with | .vo _ fs => ∃ d, fs.lookup f = some d ∧ Q d | _ => False
def isMW (m : Str) (x : D) : W Bool := fun Q _ => match x with | .vo C _ => Q (isx (xnm C) m) | _ => False
def isEW (x : D) : W Bool := fun Q _ => match x with | .vo _ _ => Q true | _ => False
section
variable {α : Type} {ps : SPat} {De : DEnds} {da : DT_} {e : α → D} {u : DS_}
theorem te_newX {C : Addr} {fn : Str} {w : W D} (ha : TE ps da eA w) : TE ps (dNewX C fn da) eA (bindW w fun x => pureW (D.vo C [(fn, x)])) := fun env m Q E R hr q =>
  ha env m _ E _ (fun x q => hr _ q) q
theorem te_newX0 {C : Addr} : TE ps (dNewX0 C) eA (pureW (D.vo C [])) := fun env m Q E R hr q => hr _ q
theorem te_fldX {f : Str} {w : W D} (ha : TE ps da eA w) : TE ps (dFldX f da) eA (bindW w (fldXW f)) := fun env m Q E R hr q =>
  ha env m _ E _ (fun x q => by
    cases x <;> first | exact False.elim q | (obtain ⟨d, h1, h2⟩ := q; exact ⟨d, h1, hr _ h2⟩)) q
theorem te_isM {mm : Str} {w : W D} (ha : TE ps da eA w) : TE ps (dIsM mm da) eB (bindW w (isMW mm)) := fun env m Q E R hr q =>
  ha env m _ E _ (fun x q => by cases x <;> first | exact False.elim q | exact hr _ q) q
theorem te_isE {w : W D} (ha : TE ps da eA w) : TE ps (dIsE da) eB (bindW w isEW) := fun env m Q E R hr q =>
  ha env m _ E _ (fun x q => by cases x <;> first | exact False.elim q | exact hr _ q) q
theorem ts_bag (i j : Nat) (hij : i ≠ j) {C : Addr} {fn : Str} {m : Int} {xs : List Int} {k : Prop} (hp : ps[i]? = some (some (.own (xs.map eI))))
    (hk : TS ((ps.set i (some (.v (eL eI (xs ++ [m]))))).set j (some (.v (eA (.vo C [(fn, eL eI (xs ++ [m]))]))))) u De k) : TS ps (dBag i j C fn m u) De (appP xs k) := fun env me p => by
  unfold dBag
  rw [me.at_ i _ hp]
  refine ⟨by rw [List.length_map]; exact p.1, ?_⟩
  have e : xs.map eI ++ [D.it m] = (xs ++ [m]).map eI := by rw [List.map_append]; rfl
  rw [e]
  exact hk _ ((me.set i _).set j _) p.2
end
abbrev eBx : Unit → D := fun _ => dBox
abbrev sp__law_draw : SpD := spDraw
def sp__law_one : SpD := fun ds Q _ => match ds with | [.bx false P, x] => P = IsB1 ∧ (match seqOf x with | some ys => ys ≠ [] ∧ ys.length ≤ 1000 ∧ ∀ y ∈ ys, Q y | none => False) | _ => False
def sp__law_odd : SpD := fun ds Q _ => ds = [dBox] ∧ ∀ d, Sm 14 3 d → Q d
def t__law_odd (_ : Unit) : W D := fun Q _ => ∀ d, Sm 14 3 d → Q d
theorem c__law_odd (u : Unit) (Qd : DK) (E : EK) (R : D → Prop) (hr : ∀ r, R r → Qd (eA r)) (q : t__law_odd u R E) : sp__law_odd [eBx u] Qd E := ⟨rfl, fun d h => hr d (q d h)⟩
def t__law_plain (error_1 : D) : W (List Int) := fun Q E => isMW "BadBatch" error_1 (fun r => isMW "Busy" error_1 (fun r2 => isMW "NoChoice" error_1 (fun r3 => szOk 3 ∧ isMW "NotBelow" error_1 (fun r4 => isMW "NothingToUndo" error_1 (fun r5 => isMW "OtherBook" error_1 (fun r6 => szOk 3 ∧ szOk ([r, r2, r3].length + [r4, r5, r6].length) ∧ isMW "TooManyEdits" error_1 (fun r7 => ([r, r2, r3] ++ [r4, r5, r6]).length < sizeLine ∧ in62 (7 : Int) ∧ (rgI 0 (7 : Int).toNat).length ≤ sizeLine ∧ lcP (fun a Q E => ∃ x, atI ([r, r2, r3] ++ [r4, r5, r6] ++ [r7]) a = some x ∧ Q x) (fun a Q E => Q a) (fun _ => False) (rgI 0 (7 : Int).toNat) [] Q) E) E) E) E) E) E) E
theorem u__law_plain  (error_1 : D) (Q : (List Int) → Prop) (E : EK) (q : isMW "BadBatch" error_1 (fun r => isMW "Busy" error_1 (fun r2 => isMW "NoChoice" error_1 (fun r3 => szOk 3 ∧ isMW "NotBelow" error_1 (fun r4 => isMW "NothingToUndo" error_1 (fun r5 => isMW "OtherBook" error_1 (fun r6 => szOk 3 ∧ szOk ([r, r2, r3].length + [r4, r5, r6].length) ∧ isMW "TooManyEdits" error_1 (fun r7 => ([r, r2, r3] ++ [r4, r5, r6]).length < sizeLine ∧ in62 (7 : Int) ∧ (rgI 0 (7 : Int).toNat).length ≤ sizeLine ∧ lcP (fun a Q E => ∃ x, atI ([r, r2, r3] ++ [r4, r5, r6] ++ [r7]) a = some x ∧ Q x) (fun a Q E => Q a) (fun _ => False) (rgI 0 (7 : Int).toNat) [] Q) E) E) E) E) E) E) E) : bindP (bindW (bindW (bindW (pureW error_1) (isMW "BadBatch")) fun x => bindW (bindW (bindW (pureW error_1) (isMW "Busy")) fun x => bindW (bindW (bindW (pureW error_1) (isMW "NoChoice")) fun x => bindW (pureW []) fun xs => pureW (x :: xs)) fun xs => pureW (x :: xs)) fun xs => pureW (x :: xs)) szW) (fun kinds_2 => bindP (bindW (pureW kinds_2) fun x => bindW (bindW (bindW (bindW (pureW error_1) (isMW "NotBelow")) fun x => bindW (bindW (bindW (pureW error_1) (isMW "NothingToUndo")) fun x => bindW (bindW (bindW (pureW error_1) (isMW "OtherBook")) fun x => bindW (pureW []) fun xs => pureW (x :: xs)) fun xs => pureW (x :: xs)) fun xs => pureW (x :: xs)) szW) fun y => catW x y) (fun kinds_3 => bindP (bindW (pureW error_1) (isMW "TooManyEdits")) (fun z_4 => appP kinds_3 (((bindW (bindW (pureW (7 : Int)) rng1W) fun xs => lcW (fun a_5 => (bindW (pureW (kinds_3 ++ [z_4])) fun x => bindW (pureW a_5) fun y => ixW x y)) (fun a_5 => (pureW a_5)) xs) Q E))) E) E) E := q
def sp__law_plain : SpD := fun ds Qd E => ∃ (error_1 : D) (R : (List Int) → Prop), ds = [eA error_1] ∧ (∀ r, R r → Qd ((eL eI) r)) ∧ t__law_plain error_1 R E
theorem c__law_plain (error_1 : D) (Qd : DK) (E : EK) (R : (List Int) → Prop) (hr : ∀ r, R r → Qd ((eL eI) r)) (q : t__law_plain error_1 R E) : sp__law_plain [eA error_1] Qd E := ⟨error_1, R, rfl, hr, q⟩
theorem len__law_plain : ∀ ds Q E, sp__law_plain ds Q E → ds.length = 1 := by rintro ds Q E ⟨_, _, rfl, _⟩; rfl
def t__law_filled (error_6 : D) : W (List Int) := fun Q E => isMW "BadBook" error_6 (fun r => isMW "BadPile" error_6 (fun r2 => isMW "BadSlip" error_6 (fun r3 => szOk 3 ∧ isMW "BadText" error_6 (fun r4 => isMW "NoAmount" error_6 (fun r5 => isMW "NoHouse" error_6 (fun r6 => szOk 3 ∧ szOk ([r, r2, r3].length + [r4, r5, r6].length) ∧ isMW "NoIndex" error_6 (fun r7 => isMW "NoRing" error_6 (fun r8 => isMW "NoSettlement" error_6 (fun r9 => szOk 3 ∧ szOk (([r, r2, r3] ++ [r4, r5, r6]).length + [r7, r8, r9].length) ∧ isMW "NoVersion" error_6 (fun r10 => isMW "Overdrawn" error_6 (fun r11 => isMW "Rejected" error_6 (fun r12 => szOk 3 ∧ szOk (([r, r2, r3] ++ [r4, r5, r6] ++ [r7, r8, r9]).length + [r10, r11, r12].length) ∧ isMW "TooDeep" error_6 (fun r13 => isMW "TooLarge" error_6 (fun r14 => isMW "TooMany" error_6 (fun r15 => szOk 3 ∧ szOk (([r, r2, r3] ++ [r4, r5, r6] ++ [r7, r8, r9] ++ [r10, r11, r12]).length + [r13, r14, r15].length) ∧ isMW "TooRich" error_6 (fun r16 => ([r, r2, r3] ++ [r4, r5, r6] ++ [r7, r8, r9] ++ [r10, r11, r12] ++ [r13, r14, r15]).length < sizeLine ∧ in62 (16 : Int) ∧ (rgI 0 (16 : Int).toNat).length ≤ sizeLine ∧ lcP (fun a Q E => ∃ x, atI ([r, r2, r3] ++ [r4, r5, r6] ++ [r7, r8, r9] ++ [r10, r11, r12] ++ [r13, r14, r15] ++ [r16]) a = some x ∧ Q x) (fun a Q E => Q a) (fun _ => False) (rgI 0 (16 : Int).toNat) [] Q) E) E) E) E) E) E) E) E) E) E) E) E) E) E) E) E
theorem u__law_filled  (error_6 : D) (Q : (List Int) → Prop) (E : EK) (q : isMW "BadBook" error_6 (fun r => isMW "BadPile" error_6 (fun r2 => isMW "BadSlip" error_6 (fun r3 => szOk 3 ∧ isMW "BadText" error_6 (fun r4 => isMW "NoAmount" error_6 (fun r5 => isMW "NoHouse" error_6 (fun r6 => szOk 3 ∧ szOk ([r, r2, r3].length + [r4, r5, r6].length) ∧ isMW "NoIndex" error_6 (fun r7 => isMW "NoRing" error_6 (fun r8 => isMW "NoSettlement" error_6 (fun r9 => szOk 3 ∧ szOk (([r, r2, r3] ++ [r4, r5, r6]).length + [r7, r8, r9].length) ∧ isMW "NoVersion" error_6 (fun r10 => isMW "Overdrawn" error_6 (fun r11 => isMW "Rejected" error_6 (fun r12 => szOk 3 ∧ szOk (([r, r2, r3] ++ [r4, r5, r6] ++ [r7, r8, r9]).length + [r10, r11, r12].length) ∧ isMW "TooDeep" error_6 (fun r13 => isMW "TooLarge" error_6 (fun r14 => isMW "TooMany" error_6 (fun r15 => szOk 3 ∧ szOk (([r, r2, r3] ++ [r4, r5, r6] ++ [r7, r8, r9] ++ [r10, r11, r12]).length + [r13, r14, r15].length) ∧ isMW "TooRich" error_6 (fun r16 => ([r, r2, r3] ++ [r4, r5, r6] ++ [r7, r8, r9] ++ [r10, r11, r12] ++ [r13, r14, r15]).length < sizeLine ∧ in62 (16 : Int) ∧ (rgI 0 (16 : Int).toNat).length ≤ sizeLine ∧ lcP (fun a Q E => ∃ x, atI ([r, r2, r3] ++ [r4, r5, r6] ++ [r7, r8, r9] ++ [r10, r11, r12] ++ [r13, r14, r15] ++ [r16]) a = some x ∧ Q x) (fun a Q E => Q a) (fun _ => False) (rgI 0 (16 : Int).toNat) [] Q) E) E) E) E) E) E) E) E) E) E) E) E) E) E) E) E) : bindP (bindW (bindW (bindW (pureW error_6) (isMW "BadBook")) fun x => bindW (bindW (bindW (pureW error_6) (isMW "BadPile")) fun x => bindW (bindW (bindW (pureW error_6) (isMW "BadSlip")) fun x => bindW (pureW []) fun xs => pureW (x :: xs)) fun xs => pureW (x :: xs)) fun xs => pureW (x :: xs)) szW) (fun kinds_7 => bindP (bindW (pureW kinds_7) fun x => bindW (bindW (bindW (bindW (pureW error_6) (isMW "BadText")) fun x => bindW (bindW (bindW (pureW error_6) (isMW "NoAmount")) fun x => bindW (bindW (bindW (pureW error_6) (isMW "NoHouse")) fun x => bindW (pureW []) fun xs => pureW (x :: xs)) fun xs => pureW (x :: xs)) fun xs => pureW (x :: xs)) szW) fun y => catW x y) (fun kinds_8 => bindP (bindW (pureW kinds_8) fun x => bindW (bindW (bindW (bindW (pureW error_6) (isMW "NoIndex")) fun x => bindW (bindW (bindW (pureW error_6) (isMW "NoRing")) fun x => bindW (bindW (bindW (pureW error_6) (isMW "NoSettlement")) fun x => bindW (pureW []) fun xs => pureW (x :: xs)) fun xs => pureW (x :: xs)) fun xs => pureW (x :: xs)) szW) fun y => catW x y) (fun kinds_9 => bindP (bindW (pureW kinds_9) fun x => bindW (bindW (bindW (bindW (pureW error_6) (isMW "NoVersion")) fun x => bindW (bindW (bindW (pureW error_6) (isMW "Overdrawn")) fun x => bindW (bindW (bindW (pureW error_6) (isMW "Rejected")) fun x => bindW (pureW []) fun xs => pureW (x :: xs)) fun xs => pureW (x :: xs)) fun xs => pureW (x :: xs)) szW) fun y => catW x y) (fun kinds_10 => bindP (bindW (pureW kinds_10) fun x => bindW (bindW (bindW (bindW (pureW error_6) (isMW "TooDeep")) fun x => bindW (bindW (bindW (pureW error_6) (isMW "TooLarge")) fun x => bindW (bindW (bindW (pureW error_6) (isMW "TooMany")) fun x => bindW (pureW []) fun xs => pureW (x :: xs)) fun xs => pureW (x :: xs)) fun xs => pureW (x :: xs)) szW) fun y => catW x y) (fun kinds_11 => bindP (bindW (pureW error_6) (isMW "TooRich")) (fun z_12 => appP kinds_11 (((bindW (bindW (pureW (16 : Int)) rng1W) fun xs => lcW (fun a_13 => (bindW (pureW (kinds_11 ++ [z_12])) fun x => bindW (pureW a_13) fun y => ixW x y)) (fun a_13 => (pureW a_13)) xs) Q E))) E) E) E) E) E) E := q
def sp__law_filled : SpD := fun ds Qd E => ∃ (error_6 : D) (R : (List Int) → Prop), ds = [eA error_6] ∧ (∀ r, R r → Qd ((eL eI) r)) ∧ t__law_filled error_6 R E
theorem c__law_filled (error_6 : D) (Qd : DK) (E : EK) (R : (List Int) → Prop) (hr : ∀ r, R r → Qd ((eL eI) r)) (q : t__law_filled error_6 R E) : sp__law_filled [eA error_6] Qd E := ⟨error_6, R, rfl, hr, q⟩
theorem len__law_filled : ∀ ds Q E, sp__law_filled ds Q E → ds.length = 1 := by rintro ds Q E ⟨_, _, rfl, _⟩; rfl
def t__law_alone (errors_14 : (List D)) (others_15 : (List D)) : W Bool := fun Q E => forP (fun x (s : Unit) N B => t__law_plain x.2 (fun r => szOk 1 ∧ (if (!(eqB r [x.1])) = true then Q false else t__law_filled x.2 (fun r2 => szOk 0 ∧ (if (!(eqB r2 [])) = true then Q false else N ())) E)) E) (fun (s : Unit) => forP (fun x (s2 : Unit) N B => t__law_filled x.2 (fun r => szOk 1 ∧ (if (!(eqB r [x.1])) = true then Q false else t__law_plain x.2 (fun r2 => szOk 0 ∧ (if (!(eqB r2 [])) = true then Q false else N ())) E)) E) (fun (s2 : Unit) => szOk (errors_14.length + others_15.length) ∧ (errors_14 ++ others_15).length ≤ sizeLine ∧ lcP (fun a Q E => isMW "SlipError" a (fun r => Q (!r)) E) (fun a Q E => Q a) (fun _ => False) (errors_14 ++ others_15) [] (fun ys => szOk 0 ∧ eqA (eL eA ys) (eL eA []) (fun r => (if r = true then (errors_14 ++ others_15).length ≤ sizeLine ∧ lcP (fun a2 Q E => isEW a2 (fun r2 => Q (!r2)) E) (fun a2 Q E => Q a2) (fun _ => False) (errors_14 ++ others_15) [] (fun ys2 => szOk 0 ∧ eqA (eL eA ys2) (eL eA []) Q E) else Q false)) E)) (enI others_15) ()) (enI errors_14) ()
theorem u__law_alone (b__law_plain : D → W (List Int)) (b__law_filled : D → W (List Int)) (errors_14 : (List D)) (others_15 : (List D)) (Q : Bool → Prop) (E : EK) (q : forP (fun x (s : Unit) N B => b__law_plain x.2 (fun r => szOk 1 ∧ (if (!(eqB r [x.1])) = true then Q false else b__law_filled x.2 (fun r2 => szOk 0 ∧ (if (!(eqB r2 [])) = true then Q false else N ())) E)) E) (fun (s : Unit) => forP (fun x (s2 : Unit) N B => b__law_filled x.2 (fun r => szOk 1 ∧ (if (!(eqB r [x.1])) = true then Q false else b__law_plain x.2 (fun r2 => szOk 0 ∧ (if (!(eqB r2 [])) = true then Q false else N ())) E)) E) (fun (s2 : Unit) => szOk (errors_14.length + others_15.length) ∧ (errors_14 ++ others_15).length ≤ sizeLine ∧ lcP (fun a Q E => isMW "SlipError" a (fun r => Q (!r)) E) (fun a Q E => Q a) (fun _ => False) (errors_14 ++ others_15) [] (fun ys => szOk 0 ∧ eqA (eL eA ys) (eL eA []) (fun r => (if r = true then (errors_14 ++ others_15).length ≤ sizeLine ∧ lcP (fun a2 Q E => isEW a2 (fun r2 => Q (!r2)) E) (fun a2 Q E => Q a2) (fun _ => False) (errors_14 ++ others_15) [] (fun ys2 => szOk 0 ∧ eqA (eL eA ys2) (eL eA []) Q E) else Q false)) E)) (enI others_15) ()) (enI errors_14) ()) : bindP (bindW (pureW errors_14) fun xs => pureW (enI xs)) (fun xs => forP (fun x_19 (s_18 : Unit) N_20 B_21 => bindP (bindW (bindW (bindW (pureW x_19.2) fun x0 => b__law_plain x0) fun x => bindW (bindW (bindW (pureW x_19.1) fun x => bindW (pureW []) fun xs => pureW (x :: xs)) szW) fun y => neW x y) fun c => ifW c (pureW true) (bindW (bindW (pureW x_19.2) fun x0 => b__law_filled x0) fun x => bindW (bindW (pureW []) szW) fun y => neW x y)) (fun b => ifP b (((pureW false) Q E)) (N_20 ())) E) (fun (s_18 : Unit) => bindP (bindW (pureW others_15) fun xs => pureW (enI xs)) (fun xs => forP (fun x_28 (s_27 : Unit) N_29 B_30 => bindP (bindW (bindW (bindW (pureW x_28.2) fun x0 => b__law_filled x0) fun x => bindW (bindW (bindW (pureW x_28.1) fun x => bindW (pureW []) fun xs => pureW (x :: xs)) szW) fun y => neW x y) fun c => ifW c (pureW true) (bindW (bindW (pureW x_28.2) fun x0 => b__law_plain x0) fun x => bindW (bindW (pureW []) szW) fun y => neW x y)) (fun b => ifP b (((pureW false) Q E)) (N_29 ())) E) (fun (s_27 : Unit) => bindP (bindW (pureW errors_14) fun x => bindW (pureW others_15) fun y => catW x y) (fun every_34 => bindP (bindW (pureW every_34) fun xs => lcW (fun a_36 => (bindW (bindW (pureW a_36) (isMW "SlipError")) fun c => pureW (!c))) (fun a_36 => (pureW a_36)) xs) (fun strange_35 => ((bindW (bindW (bindW (pureW strange_35) fun x => pureW ((eL eA) x)) fun x => bindW (bindW (bindW (pureW []) szW) fun x => pureW ((eL eA) x)) fun y => eqA x y) fun c => ifW c (bindW (bindW (bindW (pureW every_34) fun xs => lcW (fun a_37 => (bindW (bindW (pureW a_37) isEW) fun c => pureW (!c))) (fun a_37 => (pureW a_37)) xs) fun x => pureW ((eL eA) x)) fun x => bindW (bindW (bindW (pureW []) szW) fun x => pureW ((eL eA) x)) fun y => eqA x y) (pureW false)) Q E)) E) E) xs ()) E) xs ()) E := q
def sp__law_alone : SpD := fun ds Qd E => ∃ (errors_14 : (List D)) (others_15 : (List D)) (R : Bool → Prop), ds = [(eL eA) errors_14, (eL eA) others_15] ∧ (∀ r, R r → Qd (eB r)) ∧ t__law_alone errors_14 others_15 R E
theorem c__law_alone (errors_14 : (List D)) (others_15 : (List D)) (Qd : DK) (E : EK) (R : Bool → Prop) (hr : ∀ r, R r → Qd (eB r)) (q : t__law_alone errors_14 others_15 R E) : sp__law_alone [(eL eA) errors_14, (eL eA) others_15] Qd E := ⟨errors_14, others_15, R, rfl, hr, q⟩
theorem len__law_alone : ∀ ds Q E, sp__law_alone ds Q E → ds.length = 2 := by rintro ds Q E ⟨_, _, _, rfl, _⟩; rfl
def t__law_made (values_38 : (List D)) : W ((List D) × (List D)) := fun Q E => ∃ x, atI values_38 (0 : Int) = some x ∧ ∃ x2, atI values_38 (1 : Int) = some x2 ∧ ∃ x3, atI values_38 (2 : Int) = some x3 ∧ ∃ x4, atI values_38 (3 : Int) = some x4 ∧ ∃ x5, atI values_38 (4 : Int) = some x5 ∧ ∃ x6, atI values_38 (5 : Int) = some x6 ∧ ∃ x7, atI values_38 (6 : Int) = some x7 ∧ ∃ x8, atI values_38 (7 : Int) = some x8 ∧ ∃ x9, atI values_38 (8 : Int) = some x9 ∧ ∃ x10, atI values_38 (9 : Int) = some x10 ∧ ∃ x11, atI values_38 (10 : Int) = some x11 ∧ ∃ x12, atI values_38 (11 : Int) = some x12 ∧ ∃ x13, atI values_38 (12 : Int) = some x13 ∧ ∃ x14, atI values_38 (13 : Int) = some x14 ∧ ∃ x15, atI values_38 (14 : Int) = some x15 ∧ ∃ x16, atI values_38 (15 : Int) = some x16 ∧ fldXW "error" (D.vo 56 [("error", x)]) (fun r => fldXW "error" (D.vo 75 [("error", x2)]) (fun r2 => fldXW "index" (D.vo 94 [("index", x3)]) (fun r3 => fldXW "index" (D.vo 113 [("index", x4)]) (fun r4 => fldXW "amount" (D.vo 144 [("amount", x5)]) (fun r5 => fldXW "house" (D.vo 175 [("house", x6)]) (fun r6 => fldXW "index" (D.vo 194 [("index", x7)]) (fun r7 => fldXW "house" (D.vo 213 [("house", x8)]) (fun r8 => szOk 8 ∧ fldXW "error" (D.vo 232 [("error", x9)]) (fun r9 => fldXW "version" (D.vo 275 [("version", x10)]) (fun r10 => fldXW "house" (D.vo 306 [("house", x11)]) (fun r11 => fldXW "index" (D.vo 325 [("index", x12)]) (fun r12 => fldXW "house" (D.vo 344 [("house", x13)]) (fun r13 => fldXW "limit" (D.vo 363 [("limit", x14)]) (fun r14 => fldXW "limit" (D.vo 382 [("limit", x15)]) (fun r15 => szOk 7 ∧ szOk ([r, r2, r3, r4, r5, r6, r7, r8].length + [r9, r10, r11, r12, r13, r14, r15].length) ∧ szOk 16 ∧ fldXW "house" (D.vo 413 [("house", x16)]) (fun r16 => szOk 1 ∧ szOk (([r, r2, r3, r4, r5, r6, r7, r8] ++ [r9, r10, r11, r12, r13, r14, r15]).length + [r16].length) ∧ Q ([D.vo 56 [("error", x)], D.vo 75 [("error", x2)], D.vo 94 [("index", x3)], D.vo 113 [("index", x4)], D.vo 144 [("amount", x5)], D.vo 175 [("house", x6)], D.vo 194 [("index", x7)], D.vo 213 [("house", x8)], D.vo 232 [("error", x9)], D.vo 275 [("version", x10)], D.vo 306 [("house", x11)], D.vo 325 [("index", x12)], D.vo 344 [("house", x13)], D.vo 363 [("limit", x14)], D.vo 382 [("limit", x15)], D.vo 413 [("house", x16)]], [r, r2, r3, r4, r5, r6, r7, r8] ++ [r9, r10, r11, r12, r13, r14, r15] ++ [r16])) E) E) E) E) E) E) E) E) E) E) E) E) E) E) E) E
theorem u__law_made  (values_38 : (List D)) (Q : ((List D) × (List D)) → Prop) (E : EK) (q : ∃ x, atI values_38 (0 : Int) = some x ∧ ∃ x2, atI values_38 (1 : Int) = some x2 ∧ ∃ x3, atI values_38 (2 : Int) = some x3 ∧ ∃ x4, atI values_38 (3 : Int) = some x4 ∧ ∃ x5, atI values_38 (4 : Int) = some x5 ∧ ∃ x6, atI values_38 (5 : Int) = some x6 ∧ ∃ x7, atI values_38 (6 : Int) = some x7 ∧ ∃ x8, atI values_38 (7 : Int) = some x8 ∧ ∃ x9, atI values_38 (8 : Int) = some x9 ∧ ∃ x10, atI values_38 (9 : Int) = some x10 ∧ ∃ x11, atI values_38 (10 : Int) = some x11 ∧ ∃ x12, atI values_38 (11 : Int) = some x12 ∧ ∃ x13, atI values_38 (12 : Int) = some x13 ∧ ∃ x14, atI values_38 (13 : Int) = some x14 ∧ ∃ x15, atI values_38 (14 : Int) = some x15 ∧ ∃ x16, atI values_38 (15 : Int) = some x16 ∧ fldXW "error" (D.vo 56 [("error", x)]) (fun r => fldXW "error" (D.vo 75 [("error", x2)]) (fun r2 => fldXW "index" (D.vo 94 [("index", x3)]) (fun r3 => fldXW "index" (D.vo 113 [("index", x4)]) (fun r4 => fldXW "amount" (D.vo 144 [("amount", x5)]) (fun r5 => fldXW "house" (D.vo 175 [("house", x6)]) (fun r6 => fldXW "index" (D.vo 194 [("index", x7)]) (fun r7 => fldXW "house" (D.vo 213 [("house", x8)]) (fun r8 => szOk 8 ∧ fldXW "error" (D.vo 232 [("error", x9)]) (fun r9 => fldXW "version" (D.vo 275 [("version", x10)]) (fun r10 => fldXW "house" (D.vo 306 [("house", x11)]) (fun r11 => fldXW "index" (D.vo 325 [("index", x12)]) (fun r12 => fldXW "house" (D.vo 344 [("house", x13)]) (fun r13 => fldXW "limit" (D.vo 363 [("limit", x14)]) (fun r14 => fldXW "limit" (D.vo 382 [("limit", x15)]) (fun r15 => szOk 7 ∧ szOk ([r, r2, r3, r4, r5, r6, r7, r8].length + [r9, r10, r11, r12, r13, r14, r15].length) ∧ szOk 16 ∧ fldXW "house" (D.vo 413 [("house", x16)]) (fun r16 => szOk 1 ∧ szOk (([r, r2, r3, r4, r5, r6, r7, r8] ++ [r9, r10, r11, r12, r13, r14, r15]).length + [r16].length) ∧ Q ([D.vo 56 [("error", x)], D.vo 75 [("error", x2)], D.vo 94 [("index", x3)], D.vo 113 [("index", x4)], D.vo 144 [("amount", x5)], D.vo 175 [("house", x6)], D.vo 194 [("index", x7)], D.vo 213 [("house", x8)], D.vo 232 [("error", x9)], D.vo 275 [("version", x10)], D.vo 306 [("house", x11)], D.vo 325 [("index", x12)], D.vo 344 [("house", x13)], D.vo 363 [("limit", x14)], D.vo 382 [("limit", x15)], D.vo 413 [("house", x16)]], [r, r2, r3, r4, r5, r6, r7, r8] ++ [r9, r10, r11, r12, r13, r14, r15] ++ [r16])) E) E) E) E) E) E) E) E) E) E) E) E) E) E) E) E) : bindP (bindW (bindW (pureW values_38) fun x => bindW (pureW (0 : Int)) fun y => ixW x y) fun x => pureW (D.vo 56 [("error", x)])) (fun whole_39 => bindP (bindW (bindW (pureW values_38) fun x => bindW (pureW (1 : Int)) fun y => ixW x y) fun x => pureW (D.vo 75 [("error", x)])) (fun pile_40 => bindP (bindW (bindW (pureW values_38) fun x => bindW (pureW (2 : Int)) fun y => ixW x y) fun x => pureW (D.vo 94 [("index", x)])) (fun slip_41 => bindP (bindW (bindW (pureW values_38) fun x => bindW (pureW (3 : Int)) fun y => ixW x y) fun x => pureW (D.vo 113 [("index", x)])) (fun text_42 => bindP (bindW (bindW (pureW values_38) fun x => bindW (pureW (4 : Int)) fun y => ixW x y) fun x => pureW (D.vo 144 [("amount", x)])) (fun sum_of_43 => bindP (bindW (bindW (pureW values_38) fun x => bindW (pureW (5 : Int)) fun y => ixW x y) fun x => pureW (D.vo 175 [("house", x)])) (fun house_44 => bindP (bindW (bindW (pureW values_38) fun x => bindW (pureW (6 : Int)) fun y => ixW x y) fun x => pureW (D.vo 194 [("index", x)])) (fun item_45 => bindP (bindW (bindW (pureW values_38) fun x => bindW (pureW (7 : Int)) fun y => ixW x y) fun x => pureW (D.vo 213 [("house", x)])) (fun ring_46 => bindP (bindW (bindW (pureW values_38) fun x => bindW (pureW (8 : Int)) fun y => ixW x y) fun x => pureW (D.vo 232 [("error", x)])) (fun state_47 => bindP (bindW (bindW (pureW values_38) fun x => bindW (pureW (9 : Int)) fun y => ixW x y) fun x => pureW (D.vo 275 [("version", x)])) (fun time_48 => bindP (bindW (bindW (pureW values_38) fun x => bindW (pureW (10 : Int)) fun y => ixW x y) fun x => pureW (D.vo 306 [("house", x)])) (fun poor_49 => bindP (bindW (bindW (pureW values_38) fun x => bindW (pureW (11 : Int)) fun y => ixW x y) fun x => pureW (D.vo 325 [("index", x)])) (fun batch_50 => bindP (bindW (bindW (pureW values_38) fun x => bindW (pureW (12 : Int)) fun y => ixW x y) fun x => pureW (D.vo 344 [("house", x)])) (fun deep_51 => bindP (bindW (bindW (pureW values_38) fun x => bindW (pureW (13 : Int)) fun y => ixW x y) fun x => pureW (D.vo 363 [("limit", x)])) (fun large_52 => bindP (bindW (bindW (pureW values_38) fun x => bindW (pureW (14 : Int)) fun y => ixW x y) fun x => pureW (D.vo 382 [("limit", x)])) (fun many_53 => bindP (bindW (bindW (pureW values_38) fun x => bindW (pureW (15 : Int)) fun y => ixW x y) fun x => pureW (D.vo 413 [("house", x)])) (fun rich_54 => bindP (bindW (bindW (bindW (pureW whole_39) (fldXW "error")) fun x => bindW (bindW (bindW (pureW pile_40) (fldXW "error")) fun x => bindW (bindW (bindW (pureW slip_41) (fldXW "index")) fun x => bindW (bindW (bindW (pureW text_42) (fldXW "index")) fun x => bindW (bindW (bindW (pureW sum_of_43) (fldXW "amount")) fun x => bindW (bindW (bindW (pureW house_44) (fldXW "house")) fun x => bindW (bindW (bindW (pureW item_45) (fldXW "index")) fun x => bindW (bindW (bindW (pureW ring_46) (fldXW "house")) fun x => bindW (pureW []) fun xs => pureW (x :: xs)) fun xs => pureW (x :: xs)) fun xs => pureW (x :: xs)) fun xs => pureW (x :: xs)) fun xs => pureW (x :: xs)) fun xs => pureW (x :: xs)) fun xs => pureW (x :: xs)) fun xs => pureW (x :: xs)) szW) (fun fields_55 => bindP (bindW (pureW fields_55) fun x => bindW (bindW (bindW (bindW (pureW state_47) (fldXW "error")) fun x => bindW (bindW (bindW (pureW time_48) (fldXW "version")) fun x => bindW (bindW (bindW (pureW poor_49) (fldXW "house")) fun x => bindW (bindW (bindW (pureW batch_50) (fldXW "index")) fun x => bindW (bindW (bindW (pureW deep_51) (fldXW "house")) fun x => bindW (bindW (bindW (pureW large_52) (fldXW "limit")) fun x => bindW (bindW (bindW (pureW many_53) (fldXW "limit")) fun x => bindW (pureW []) fun xs => pureW (x :: xs)) fun xs => pureW (x :: xs)) fun xs => pureW (x :: xs)) fun xs => pureW (x :: xs)) fun xs => pureW (x :: xs)) fun xs => pureW (x :: xs)) fun xs => pureW (x :: xs)) szW) fun y => catW x y) (fun fields_56 => bindP (bindW (bindW (pureW whole_39) fun x => bindW (bindW (pureW pile_40) fun x => bindW (bindW (pureW slip_41) fun x => bindW (bindW (pureW text_42) fun x => bindW (bindW (pureW sum_of_43) fun x => bindW (bindW (pureW house_44) fun x => bindW (bindW (pureW item_45) fun x => bindW (bindW (pureW ring_46) fun x => bindW (bindW (pureW state_47) fun x => bindW (bindW (pureW time_48) fun x => bindW (bindW (pureW poor_49) fun x => bindW (bindW (pureW batch_50) fun x => bindW (bindW (pureW deep_51) fun x => bindW (bindW (pureW large_52) fun x => bindW (bindW (pureW many_53) fun x => bindW (bindW (pureW rich_54) fun x => bindW (pureW []) fun xs => pureW (x :: xs)) fun xs => pureW (x :: xs)) fun xs => pureW (x :: xs)) fun xs => pureW (x :: xs)) fun xs => pureW (x :: xs)) fun xs => pureW (x :: xs)) fun xs => pureW (x :: xs)) fun xs => pureW (x :: xs)) fun xs => pureW (x :: xs)) fun xs => pureW (x :: xs)) fun xs => pureW (x :: xs)) fun xs => pureW (x :: xs)) fun xs => pureW (x :: xs)) fun xs => pureW (x :: xs)) fun xs => pureW (x :: xs)) fun xs => pureW (x :: xs)) szW) (fun made_here_57 => ((bindW (pureW made_here_57) fun x => bindW (bindW (pureW fields_56) fun x => bindW (bindW (bindW (bindW (pureW rich_54) (fldXW "house")) fun x => bindW (pureW []) fun xs => pureW (x :: xs)) szW) fun y => catW x y) fun y => pureW (x, y)) Q E)) E) E) E) E) E) E) E) E) E) E) E) E) E) E) E) E) E) E) E := q
def sp__law_made : SpD := fun ds Qd E => ∃ (values_38 : (List D)) (R : ((List D) × (List D)) → Prop), ds = [(eL eA) values_38] ∧ (∀ r, R r → Qd ((eQ (eL eA) (eL eA)) r)) ∧ t__law_made values_38 R E
theorem c__law_made (values_38 : (List D)) (Qd : DK) (E : EK) (R : ((List D) × (List D)) → Prop) (hr : ∀ r, R r → Qd ((eQ (eL eA) (eL eA)) r)) (q : t__law_made values_38 R E) : sp__law_made [(eL eA) values_38] Qd E := ⟨values_38, R, rfl, hr, q⟩
theorem len__law_made : ∀ ds Q E, sp__law_made ds Q E → ds.length = 1 := by rintro ds Q E ⟨_, _, rfl, _⟩; rfl
def t_law : W Bool := fun Q E => in62 (16 : Int) ∧ (rgI 0 (16 : Int).toNat).length ≤ sizeLine ∧ lcP (fun a Q E => Q true) (fun a Q E => t__law_odd () Q E) (fun _ => False) (rgI 0 (16 : Int).toNat) [] (fun ys => t__law_made ys (fun r => szOk 7 ∧ Fit (eL eA r.2) ∧ Fit (eL eA ys) ∧ (if (!(eqB (eL eA r.2).py.shown (eL eA ys).py.shown)) = true then Q false else t__law_alone [D.vo 37 [], D.vo 125 [], D.vo 156 [], D.vo 244 [], D.vo 256 [], D.vo 287 [], D.vo 394 []] r.1 (fun r2 => (if (!r2) = true then Q false else szOk 1 ∧ [(0 : Int)].length < sizeLine ∧ szOk 7 ∧ joinP (fun K => K [(20 : Int), (30 : Int), (1000000000 : Int), (6 : Int), (1000000000000 : Int), (6 : Int), (400 : Int)]) (fun v => fldXW "amount" (D.vo 144 [("amount", eL eI ([(0 : Int)] ++ [(1 : Int)]))]) (fun r3 => szOk 2 ∧ neA r3 (eL eI [(0 : Int), (1 : Int)]) (fun r4 => (if r4 = true then Q false else Fit (eL eI v) ∧ CPow (10 : Int) (9 : Int) ∧ CPow (10 : Int) (12 : Int) ∧ szOk 7 ∧ joinP (fun K => K [(20 : Int), (30 : Int), (10 : Int) ^ (9 : Int).toNat, (6 : Int), (10 : Int) ^ (12 : Int).toNat, (6 : Int), (400 : Int)]) (fun v2 => Fit (eL eI v2) ∧ Q (eqB (eL eI v).py.shown (eL eI v2).py.shown)))) E) E))) E)) E)
theorem u_law (b__law_odd : Unit → W D) (b__law_made : (List D) → W ((List D) × (List D))) (b__law_alone : (List D) → (List D) → W Bool) (Q : Bool → Prop) (E : EK) (q : in62 (16 : Int) ∧ (rgI 0 (16 : Int).toNat).length ≤ sizeLine ∧ lcP (fun a Q E => Q true) (fun a Q E => b__law_odd () Q E) (fun _ => False) (rgI 0 (16 : Int).toNat) [] (fun ys => b__law_made ys (fun r => szOk 7 ∧ Fit (eL eA r.2) ∧ Fit (eL eA ys) ∧ (if (!(eqB (eL eA r.2).py.shown (eL eA ys).py.shown)) = true then Q false else b__law_alone [D.vo 37 [], D.vo 125 [], D.vo 156 [], D.vo 244 [], D.vo 256 [], D.vo 287 [], D.vo 394 []] r.1 (fun r2 => (if (!r2) = true then Q false else szOk 1 ∧ [(0 : Int)].length < sizeLine ∧ szOk 7 ∧ joinP (fun K => K [(20 : Int), (30 : Int), (1000000000 : Int), (6 : Int), (1000000000000 : Int), (6 : Int), (400 : Int)]) (fun v => fldXW "amount" (D.vo 144 [("amount", eL eI ([(0 : Int)] ++ [(1 : Int)]))]) (fun r3 => szOk 2 ∧ neA r3 (eL eI [(0 : Int), (1 : Int)]) (fun r4 => (if r4 = true then Q false else Fit (eL eI v) ∧ CPow (10 : Int) (9 : Int) ∧ CPow (10 : Int) (12 : Int) ∧ szOk 7 ∧ joinP (fun K => K [(20 : Int), (30 : Int), (10 : Int) ^ (9 : Int).toNat, (6 : Int), (10 : Int) ^ (12 : Int).toNat, (6 : Int), (400 : Int)]) (fun v2 => Fit (eL eI v2) ∧ Q (eqB (eL eI v).py.shown (eL eI v2).py.shown)))) E) E))) E)) E)) : bindP (bindW (bindW (pureW (16 : Int)) rng1W) fun xs => lcW (fun a_59 => (pureW true)) (fun a_59 => (bindW (pureW ()) fun x0 => b__law_odd x0)) xs) (fun values_58 => bindP (bindW (pureW values_58) fun x0 => b__law_made x0) (fun z_60 => bindP (bindW (bindW (pureW (D.vo 37 [])) fun x => bindW (bindW (pureW (D.vo 125 [])) fun x => bindW (bindW (pureW (D.vo 156 [])) fun x => bindW (bindW (pureW (D.vo 244 [])) fun x => bindW (bindW (pureW (D.vo 256 [])) fun x => bindW (bindW (pureW (D.vo 287 [])) fun x => bindW (bindW (pureW (D.vo 394 [])) fun x => bindW (pureW []) fun xs => pureW (x :: xs)) fun xs => pureW (x :: xs)) fun xs => pureW (x :: xs)) fun xs => pureW (x :: xs)) fun xs => pureW (x :: xs)) fun xs => pureW (x :: xs)) fun xs => pureW (x :: xs)) szW) (fun errors_61 => bindP (bindW (bindW (bindW (pureW z_60.2) (fun x => reprW ((eL eA) x))) fun x => bindW (bindW (pureW values_58) (fun x => reprW ((eL eA) x))) fun y => neW x y) fun c => ifW c (pureW true) (bindW (bindW (pureW errors_61) fun x0 => bindW (pureW z_60.1) fun x1 => b__law_alone x0 x1) fun c => pureW (!c))) (fun b => ifP b (((pureW false) Q E)) (bindP (bindW (bindW (pureW (0 : Int)) fun x => bindW (pureW []) fun xs => pureW (x :: xs)) szW) (fun bag_62 => appP bag_62 (bindP (bindW (bindW (pureW (20 : Int)) fun x => bindW (bindW (pureW (30 : Int)) fun x => bindW (bindW (pureW (1000000000 : Int)) fun x => bindW (bindW (pureW (6 : Int)) fun x => bindW (bindW (pureW (1000000000000 : Int)) fun x => bindW (bindW (pureW (6 : Int)) fun x => bindW (bindW (pureW (400 : Int)) fun x => bindW (pureW []) fun xs => pureW (x :: xs)) fun xs => pureW (x :: xs)) fun xs => pureW (x :: xs)) fun xs => pureW (x :: xs)) fun xs => pureW (x :: xs)) fun xs => pureW (x :: xs)) fun xs => pureW (x :: xs)) szW) (fun bounds_63 => bindP (bindW (bindW (pureW (D.vo 144 [("amount", eL eI (bag_62 ++ [(1 : Int)]))])) (fldXW "amount")) fun x => bindW (bindW (bindW (bindW (pureW (0 : Int)) fun x => bindW (bindW (pureW (1 : Int)) fun x => bindW (pureW []) fun xs => pureW (x :: xs)) fun xs => pureW (x :: xs)) szW) fun x => pureW ((eL eI) x)) fun y => neA x y) (fun b => ifP b (((pureW false) Q E)) (((bindW (bindW (pureW bounds_63) (fun x => reprW ((eL eI) x))) fun x => bindW (bindW (bindW (bindW (pureW (20 : Int)) fun x => bindW (bindW (pureW (30 : Int)) fun x => bindW (bindW (bindW (pureW (10 : Int)) fun x => bindW (pureW (9 : Int)) fun y => powI x y) fun x => bindW (bindW (pureW (6 : Int)) fun x => bindW (bindW (bindW (pureW (10 : Int)) fun x => bindW (pureW (12 : Int)) fun y => powI x y) fun x => bindW (bindW (pureW (6 : Int)) fun x => bindW (bindW (pureW (400 : Int)) fun x => bindW (pureW []) fun xs => pureW (x :: xs)) fun xs => pureW (x :: xs)) fun xs => pureW (x :: xs)) fun xs => pureW (x :: xs)) fun xs => pureW (x :: xs)) fun xs => pureW (x :: xs)) fun xs => pureW (x :: xs)) szW) (fun x => reprW ((eL eI) x))) fun y => eqW x y) Q E))) E) E)) E)) E) E) E) E := q
abbrev xmt : List (Str × Addr) := [("BadBatch", 37), ("BadBook", 56), ("BadPile", 75), ("BadSlip", 94), ("BadText", 113), ("Busy", 125), ("NoAmount", 144), ("NoChoice", 156), ("NoHouse", 175), ("NoIndex", 194), ("NoRing", 213), ("NoSettlement", 232), ("NotBelow", 244), ("NothingToUndo", 256), ("NoVersion", 275), ("OtherBook", 287), ("Overdrawn", 306), ("Rejected", 325), ("TooDeep", 344), ("TooLarge", 363), ("TooMany", 382), ("TooManyEdits", 394), ("TooRich", 413), ("SlipError", 24)]
abbrev xms : List Str := xmt.map (·.1)
abbrev xfs : List Str := ["error", "index", "amount", "house", "version", "limit"]
structure Gs (K : PySem.W.Frag) (mg : Str → Option Value) : Prop where
  r_BadBatch : mg "BadBatch" = some (.ref 37) ∧ Own0 K 37
  r_BadBook : mg "BadBook" = some (.ref 56) ∧ ∃ fI, PySem.SlipX.Txt_error "BadBook.__init__" K 56 fI
  r_BadPile : mg "BadPile" = some (.ref 75) ∧ ∃ fI, PySem.SlipX.Txt_error "BadPile.__init__" K 75 fI
  r_BadSlip : mg "BadSlip" = some (.ref 94) ∧ ∃ fI, PySem.SlipX.Txt_index "BadSlip.__init__" K 94 fI
  r_BadText : mg "BadText" = some (.ref 113) ∧ ∃ fI, PySem.SlipX.Txt_index "BadText.__init__" K 113 fI
  r_Busy : mg "Busy" = some (.ref 125) ∧ Own0 K 125
  r_NoAmount : mg "NoAmount" = some (.ref 144) ∧ ∃ fI, PySem.SlipX.Txt_amount "NoAmount.__init__" K 144 fI
  r_NoChoice : mg "NoChoice" = some (.ref 156) ∧ Own0 K 156
  r_NoHouse : mg "NoHouse" = some (.ref 175) ∧ ∃ fI, PySem.SlipX.Txt_house "NoHouse.__init__" K 175 fI
  r_NoIndex : mg "NoIndex" = some (.ref 194) ∧ ∃ fI, PySem.SlipX.Txt_index "NoIndex.__init__" K 194 fI
  r_NoRing : mg "NoRing" = some (.ref 213) ∧ ∃ fI, PySem.SlipX.Txt_house "NoRing.__init__" K 213 fI
  r_NoSettlement : mg "NoSettlement" = some (.ref 232) ∧ ∃ fI, PySem.SlipX.Txt_error "NoSettlement.__init__" K 232 fI
  r_NotBelow : mg "NotBelow" = some (.ref 244) ∧ Own0 K 244
  r_NothingToUndo : mg "NothingToUndo" = some (.ref 256) ∧ Own0 K 256
  r_NoVersion : mg "NoVersion" = some (.ref 275) ∧ ∃ fI, PySem.SlipX.Txt_version "NoVersion.__init__" K 275 fI
  r_OtherBook : mg "OtherBook" = some (.ref 287) ∧ Own0 K 287
  r_Overdrawn : mg "Overdrawn" = some (.ref 306) ∧ ∃ fI, PySem.SlipX.Txt_house "Overdrawn.__init__" K 306 fI
  r_Rejected : mg "Rejected" = some (.ref 325) ∧ ∃ fI, PySem.SlipX.Txt_index "Rejected.__init__" K 325 fI
  r_TooDeep : mg "TooDeep" = some (.ref 344) ∧ ∃ fI, PySem.SlipX.Txt_house "TooDeep.__init__" K 344 fI
  r_TooLarge : mg "TooLarge" = some (.ref 363) ∧ ∃ fI, PySem.SlipX.Txt_limit "TooLarge.__init__" K 363 fI
  r_TooMany : mg "TooMany" = some (.ref 382) ∧ ∃ fI, PySem.SlipX.Txt_limit "TooMany.__init__" K 382 fI
  r_TooManyEdits : mg "TooManyEdits" = some (.ref 394) ∧ Own0 K 394
  r_TooRich : mg "TooRich" = some (.ref 413) ∧ ∃ fI, PySem.SlipX.Txt_house "TooRich.__init__" K 413 fI
  r_SlipError : mg "SlipError" = some (.ref 24) ∧ True
  x_all : XAll K mg xms xfs
  g_ValueError : mg "ValueError" = none
  g_enumerate : mg "enumerate" = none
  g_isinstance : mg "isinstance" = none
  g_len : mg "len" = none
  g_range : mg "range" = none
  g_repr : mg "repr" = none
  c_BATCH : ∃ u, mg "BATCH" = some u ∧ RelV (.int 20) u
  c_HISTORY : ∃ u, mg "HISTORY" = some u ∧ RelV (.int 30) u
  c_MAX_AMOUNT : ∃ u, mg "MAX_AMOUNT" = some u ∧ RelV (.int 1000000000) u
  c_MAX_HOUSES : ∃ u, mg "MAX_HOUSES" = some u ∧ RelV (.int 6) u
  c_MAX_PURSE : ∃ u, mg "MAX_PURSE" = some u ∧ RelV (.int 1000000000000) u
  c_MAX_SLIPS : ∃ u, mg "MAX_SLIPS" = some u ∧ RelV (.int 6) u
  c_MAX_STEPS : ∃ u, mg "MAX_STEPS" = some u ∧ RelV (.int 400) u
section
variable {P : Program} {w : World} {K : PySem.W.Frag} {mg : Str → Option Value} {base : Heap}
abbrev N__law_one : List Str := ["_law_box", "_law_items"]
theorem sc__law_one : FnScope N__law_one ["_law_box", "_law_items"] (defScope s__law_one) := ⟨rfl, rfl, rfl, by decide +kernel, rfl, by decide +kernel, by decide +kernel⟩
def d__law_one_0 : DS_ := (dRet (dOp oIx (dVar 1) (dCall sp__law_draw (dCons (dVar 0) (dCons (dCB oLen (dCons (dVar 1) dNil)) dNil)))))
def r__law_one_0 : DS_ := d__law_one_0
def d__law_one : DS_ := r__law_one_0
theorem w__law_one {f : Addr} {fd : FuncData} {k : Nat} (F : Fun K "_law_one" "_law_one" s__law_one f fd) (G : Gs K mg) (hsys : ∃ o, base.get? sysModules = some o) (C__law_draw : Cal P w K mg base k "_law_draw" ["_law_box", "_law_many"] sp__law_draw)
    (len : ∀ ds Q E, sp__law_one ds Q E → ds.length = 2) (law : ∀ ds Q E, sp__law_one ds Q E → d__law_one { nx := fun _ => Q .non, rt := Q, ex := E } (dstart 2 ds)) : GFn P w K mg base (k + 1) f fd ["_law_box", "_law_items"] sp__law_one := by
  exact gfn_mk F sc__law_one len (fun cdv A outer s H E hr hgd => (ds_one (ds_ret (de_ix (de_var 1) (de_call C__law_draw hr hgd passD rfl (da_cons (de_var 0) (da_cons (de_len rfl G.g_len (da_cons (de_var 1) da_nil)) da_nil))))))) law
abbrev N__law_odd : List Str := ["_law_box", "_law_some"]
theorem sc__law_odd : FnScope N__law_odd ["_law_box"] (defScope s__law_odd) := ⟨rfl, rfl, rfl, by decide +kernel, rfl, by decide +kernel, by decide +kernel⟩
def d__law_odd_2 : DS_ := (dRet (dCall sp__law_one (dCons (dVar 0) (dCons (dVar 1) dNil))))
def r__law_odd_2 : DS_ := d__law_odd_2
def d__law_odd_1 : DS_ := (dSet 1 (dOp oAdd (dVar 1) (dLst (dCons (dTup (dCons (dC (.it 1)) (dCons (dC (.it 4)) dNil))) (dCons (dTup (dCons (dC (.it 0)) (dCons (dTup dNil) dNil))) (dCons (dLst dNil) (dCons (dLst (dCons (dC (.it 0)) dNil)) (dCons dDic0 (dCons (dDic1 "a" (dC (.it 1))) (dCons (dTup (dCons (dTup (dCons (dC (.it 0)) (dCons (dTup dNil) dNil))) dNil)) (dCons (dTup (dCons (dC (.it 1)) (dCons (dC (.it 0)) dNil))) (dCons (dTup (dCons (dC (.bl true)) (dCons (dC (.it 4)) dNil))) (dCons (dTup (dCons (dTup (dCons (dC (.it 1)) (dCons (dC (.it 4)) dNil))) dNil)) (dCons (dC (.st "5:")) dNil))))))))))))))
def r__law_odd_1 : DS_ := dSeq d__law_odd_1 r__law_odd_2
def d__law_odd_0 : DS_ := (dSet 1 (dLst (dCons (dC .non) (dCons (dC (.bl true)) (dCons (dC (.bl false)) (dCons (dNeg (dC (.it 1))) (dCons (dC (.it 0)) (dCons (dC (.it 1)) (dCons (dC (.it 5)) (dCons (dC (.it 6)) (dCons (dOp oPow (dC (.it 10)) (dC (.it 9))) (dCons (dOp oAdd (dOp oPow (dC (.it 10)) (dC (.it 9))) (dC (.it 1))) (dCons (dOp oAdd (dOp oPow (dC (.it 10)) (dC (.it 12))) (dC (.it 1))) (dCons (dOp oPow (dC (.it 10)) (dC (.it 39))) (dCons (dC (.st "")) (dCons (dC (.st "0")) (dCons (dC (.st "1-4")) (dCons (dTup dNil) (dCons (dTup (dCons (dC (.it 0)) dNil)) dNil)))))))))))))))))))
def r__law_odd_0 : DS_ := dSeq d__law_odd_0 r__law_odd_1
def d__law_odd : DS_ := r__law_odd_0
theorem w__law_odd {f : Addr} {fd : FuncData} {k : Nat} (F : Fun K "_law_odd" "_law_odd" s__law_odd f fd) (G : Gs K mg) (hsys : ∃ o, base.get? sysModules = some o) (C__law_one : Cal P w K mg base k "_law_one" ["_law_box", "_law_items"] sp__law_one)
    (len : ∀ ds Q E, sp__law_odd ds Q E → ds.length = 1) (law : ∀ ds Q E, sp__law_odd ds Q E → d__law_odd { nx := fun _ => Q .non, rt := Q, ex := E } (dstart 2 ds)) : GFn P w K mg base (k + 1) f fd ["_law_box"] sp__law_odd := by
  exact gfn_mk F sc__law_odd len (fun cdv A outer s H E hr hgd => (ds_cons (ds_set 1 (de_lst (da_cons de_non (da_cons de_bl (da_cons de_bl (da_cons (de_neg de_int) (da_cons de_int (da_cons de_int (da_cons de_int (da_cons de_int (da_cons (de_pow de_int de_int) (da_cons (de_add (de_pow de_int de_int) de_int) (da_cons (de_add (de_pow de_int de_int) de_int) (da_cons (de_pow de_int de_int) (da_cons de_str (da_cons de_str (da_cons de_str (da_cons (de_tup da_nil) (da_cons (de_tup (da_cons de_int da_nil)) da_nil)))))))))))))))))) sc__law_odd.nd) (ds_cons (ds_set 1 (de_add (de_var 1) (de_lst (da_cons (de_tup (da_cons de_int (da_cons de_int da_nil))) (da_cons (de_tup (da_cons de_int (da_cons (de_tup da_nil) da_nil))) (da_cons (de_lst da_nil) (da_cons (de_lst (da_cons de_int da_nil)) (da_cons de_dic0 (da_cons (de_dic1 de_int) (da_cons (de_tup (da_cons (de_tup (da_cons de_int (da_cons (de_tup da_nil) da_nil))) da_nil)) (da_cons (de_tup (da_cons de_int (da_cons de_int da_nil))) (da_cons (de_tup (da_cons de_bl (da_cons de_int da_nil))) (da_cons (de_tup (da_cons (de_tup (da_cons de_int (da_cons de_int da_nil))) da_nil)) (da_cons de_str da_nil))))))))))))) sc__law_odd.nd) (ds_one (ds_ret (de_call C__law_one hr hgd passD rfl (da_cons (de_var 0) (da_cons (de_var 1) da_nil)))))))) law
abbrev N__law_plain : List Str := ["_law_error", "_law_kinds", "_law_k"]
theorem sc__law_plain : FnScope N__law_plain ["_law_error"] (defScope s__law_plain) := ⟨rfl, rfl, rfl, by decide +kernel, rfl, by decide +kernel, by decide +kernel⟩
def d__law_plain_3 : DS_ := (dFrzS 1 (dRet (dFrz (dLc (dRng1 (dCons (dC (.it 7)) dNil)) (dgName 2) (dTst (dOp oIx (dVar 1) (dVar 2))) (dVar 2) [2]))))
def r__law_plain_3 : DS_ := d__law_plain_3
def d__law_plain_2 : DS_ := (dApp 1 (dIsM "TooManyEdits" (dVar 0)))
def r__law_plain_2 : DS_ := dSeq d__law_plain_2 r__law_plain_3
def d__law_plain_1 : DS_ := (dFrzS 1 (dSetO 1 (dCatN (dVar 1) (dLst (dCons (dIsM "NotBelow" (dVar 0)) (dCons (dIsM "NothingToUndo" (dVar 0)) (dCons (dIsM "OtherBook" (dVar 0)) dNil)))))))
def r__law_plain_1 : DS_ := dSeq d__law_plain_1 r__law_plain_2
def d__law_plain_0 : DS_ := (dSetO 1 (dLstN (dCons (dIsM "BadBatch" (dVar 0)) (dCons (dIsM "Busy" (dVar 0)) (dCons (dIsM "NoChoice" (dVar 0)) dNil)))))
def r__law_plain_0 : DS_ := dSeq d__law_plain_0 r__law_plain_1
def d__law_plain : DS_ := r__law_plain_0
theorem w__law_plain {f : Addr} {fd : FuncData} {k : Nat} (F : Fun K "_law_plain" "_law_plain" s__law_plain f fd) (G : Gs K mg) (hsys : ∃ o, base.get? sysModules = some o)
    (len : ∀ ds Q E, sp__law_plain ds Q E → ds.length = 1) (law : ∀ ds Q E, sp__law_plain ds Q E → d__law_plain { nx := fun _ => Q .non, rt := Q, ex := E } (dstart 3 ds)) : GFn P w K mg base (k + 1) f fd ["_law_error"] sp__law_plain := by
  exact gfn_mk F sc__law_plain len (fun cdv A outer s H E hr hgd => (ds_cons (ds_setO 1 (dn_lst (da_cons (de_isM (m := "BadBatch") G.x_all (by decide) (de_var 0) rfl G.g_isinstance rfl (by decide) (hmg := ⟨_, G.r_BadBatch.1⟩)) (da_cons (de_isM (m := "Busy") G.x_all (by decide) (de_var 0) rfl G.g_isinstance rfl (by decide) (hmg := ⟨_, G.r_Busy.1⟩)) (da_cons (de_isM (m := "NoChoice") G.x_all (by decide) (de_var 0) rfl G.g_isinstance rfl (by decide) (hmg := ⟨_, G.r_NoChoice.1⟩)) da_nil)))) sc__law_plain.nd) (ds_cons (ds_frz 1 (ds_setO 1 (dn_cat (de_var 1) (de_lst (da_cons (de_isM (m := "NotBelow") G.x_all (by decide) (de_var 0) rfl G.g_isinstance rfl (by decide) (hmg := ⟨_, G.r_NotBelow.1⟩)) (da_cons (de_isM (m := "NothingToUndo") G.x_all (by decide) (de_var 0) rfl G.g_isinstance rfl (by decide) (hmg := ⟨_, G.r_NothingToUndo.1⟩)) (da_cons (de_isM (m := "OtherBook") G.x_all (by decide) (de_var 0) rfl G.g_isinstance rfl (by decide) (hmg := ⟨_, G.r_OtherBook.1⟩)) da_nil))))) sc__law_plain.nd)) (ds_cons (ds_append 1 (de_isM (m := "TooManyEdits") G.x_all (by decide) (de_var 0) rfl G.g_isinstance rfl (by decide) (hmg := ⟨_, G.r_TooManyEdits.1⟩))) (ds_one (ds_frz 1 (ds_ret (DN.toDE (dn_lc rfl sc__law_plain.nd (di_range1 rfl G.g_range (da_cons de_int da_nil)) (own := [("_law_k", 2)]) (blkOk_by (by show blkC N__law_plain (defScope s__law_plain) _ _ = true; decide +kernel)) (vsg := [2]) (by decide) (fun s H C cl fp => (dg_name 2 sc__law_plain.nd)) (fun s H C cl fp => (dts_one (db_val (de_ix (de_var 1) (de_var 2))))) (fun s H C cl fp => (de_var 2))))))))))) law
abbrev N__law_filled : List Str := ["_law_error", "_law_kinds", "_law_k"]
theorem sc__law_filled : FnScope N__law_filled ["_law_error"] (defScope s__law_filled) := ⟨rfl, rfl, rfl, by decide +kernel, rfl, by decide +kernel, by decide +kernel⟩
def d__law_filled_6 : DS_ := (dFrzS 1 (dRet (dFrz (dLc (dRng1 (dCons (dC (.it 16)) dNil)) (dgName 2) (dTst (dOp oIx (dVar 1) (dVar 2))) (dVar 2) [2]))))
def r__law_filled_6 : DS_ := d__law_filled_6
def d__law_filled_5 : DS_ := (dApp 1 (dIsM "TooRich" (dVar 0)))
def r__law_filled_5 : DS_ := dSeq d__law_filled_5 r__law_filled_6
def d__law_filled_4 : DS_ := (dFrzS 1 (dSetO 1 (dCatN (dVar 1) (dLst (dCons (dIsM "TooDeep" (dVar 0)) (dCons (dIsM "TooLarge" (dVar 0)) (dCons (dIsM "TooMany" (dVar 0)) dNil)))))))
def r__law_filled_4 : DS_ := dSeq d__law_filled_4 r__law_filled_5
def d__law_filled_3 : DS_ := (dFrzS 1 (dSetO 1 (dCatN (dVar 1) (dLst (dCons (dIsM "NoVersion" (dVar 0)) (dCons (dIsM "Overdrawn" (dVar 0)) (dCons (dIsM "Rejected" (dVar 0)) dNil)))))))
def r__law_filled_3 : DS_ := dSeq d__law_filled_3 r__law_filled_4
def d__law_filled_2 : DS_ := (dFrzS 1 (dSetO 1 (dCatN (dVar 1) (dLst (dCons (dIsM "NoIndex" (dVar 0)) (dCons (dIsM "NoRing" (dVar 0)) (dCons (dIsM "NoSettlement" (dVar 0)) dNil)))))))
def r__law_filled_2 : DS_ := dSeq d__law_filled_2 r__law_filled_3
def d__law_filled_1 : DS_ := (dFrzS 1 (dSetO 1 (dCatN (dVar 1) (dLst (dCons (dIsM "BadText" (dVar 0)) (dCons (dIsM "NoAmount" (dVar 0)) (dCons (dIsM "NoHouse" (dVar 0)) dNil)))))))
def r__law_filled_1 : DS_ := dSeq d__law_filled_1 r__law_filled_2
def d__law_filled_0 : DS_ := (dSetO 1 (dLstN (dCons (dIsM "BadBook" (dVar 0)) (dCons (dIsM "BadPile" (dVar 0)) (dCons (dIsM "BadSlip" (dVar 0)) dNil)))))
def r__law_filled_0 : DS_ := dSeq d__law_filled_0 r__law_filled_1
def d__law_filled : DS_ := r__law_filled_0
theorem w__law_filled {f : Addr} {fd : FuncData} {k : Nat} (F : Fun K "_law_filled" "_law_filled" s__law_filled f fd) (G : Gs K mg) (hsys : ∃ o, base.get? sysModules = some o)
    (len : ∀ ds Q E, sp__law_filled ds Q E → ds.length = 1) (law : ∀ ds Q E, sp__law_filled ds Q E → d__law_filled { nx := fun _ => Q .non, rt := Q, ex := E } (dstart 3 ds)) : GFn P w K mg base (k + 1) f fd ["_law_error"] sp__law_filled := by
  exact gfn_mk F sc__law_filled len (fun cdv A outer s H E hr hgd => (ds_cons (ds_setO 1 (dn_lst (da_cons (de_isM (m := "BadBook") G.x_all (by decide) (de_var 0) rfl G.g_isinstance rfl (by decide) (hmg := ⟨_, G.r_BadBook.1⟩)) (da_cons (de_isM (m := "BadPile") G.x_all (by decide) (de_var 0) rfl G.g_isinstance rfl (by decide) (hmg := ⟨_, G.r_BadPile.1⟩)) (da_cons (de_isM (m := "BadSlip") G.x_all (by decide) (de_var 0) rfl G.g_isinstance rfl (by decide) (hmg := ⟨_, G.r_BadSlip.1⟩)) da_nil)))) sc__law_filled.nd) (ds_cons (ds_frz 1 (ds_setO 1 (dn_cat (de_var 1) (de_lst (da_cons (de_isM (m := "BadText") G.x_all (by decide) (de_var 0) rfl G.g_isinstance rfl (by decide) (hmg := ⟨_, G.r_BadText.1⟩)) (da_cons (de_isM (m := "NoAmount") G.x_all (by decide) (de_var 0) rfl G.g_isinstance rfl (by decide) (hmg := ⟨_, G.r_NoAmount.1⟩)) (da_cons (de_isM (m := "NoHouse") G.x_all (by decide) (de_var 0) rfl G.g_isinstance rfl (by decide) (hmg := ⟨_, G.r_NoHouse.1⟩)) da_nil))))) sc__law_filled.nd)) (ds_cons (ds_frz 1 (ds_setO 1 (dn_cat (de_var 1) (de_lst (da_cons (de_isM (m := "NoIndex") G.x_all (by decide) (de_var 0) rfl G.g_isinstance rfl (by decide) (hmg := ⟨_, G.r_NoIndex.1⟩)) (da_cons (de_isM (m := "NoRing") G.x_all (by decide) (de_var 0) rfl G.g_isinstance rfl (by decide) (hmg := ⟨_, G.r_NoRing.1⟩)) (da_cons (de_isM (m := "NoSettlement") G.x_all (by decide) (de_var 0) rfl G.g_isinstance rfl (by decide) (hmg := ⟨_, G.r_NoSettlement.1⟩)) da_nil))))) sc__law_filled.nd)) (ds_cons (ds_frz 1 (ds_setO 1 (dn_cat (de_var 1) (de_lst (da_cons (de_isM (m := "NoVersion") G.x_all (by decide) (de_var 0) rfl G.g_isinstance rfl (by decide) (hmg := ⟨_, G.r_NoVersion.1⟩)) (da_cons (de_isM (m := "Overdrawn") G.x_all (by decide) (de_var 0) rfl G.g_isinstance rfl (by decide) (hmg := ⟨_, G.r_Overdrawn.1⟩)) (da_cons (de_isM (m := "Rejected") G.x_all (by decide) (de_var 0) rfl G.g_isinstance rfl (by decide) (hmg := ⟨_, G.r_Rejected.1⟩)) da_nil))))) sc__law_filled.nd)) (ds_cons (ds_frz 1 (ds_setO 1 (dn_cat (de_var 1) (de_lst (da_cons (de_isM (m := "TooDeep") G.x_all (by decide) (de_var 0) rfl G.g_isinstance rfl (by decide) (hmg := ⟨_, G.r_TooDeep.1⟩)) (da_cons (de_isM (m := "TooLarge") G.x_all (by decide) (de_var 0) rfl G.g_isinstance rfl (by decide) (hmg := ⟨_, G.r_TooLarge.1⟩)) (da_cons (de_isM (m := "TooMany") G.x_all (by decide) (de_var 0) rfl G.g_isinstance rfl (by decide) (hmg := ⟨_, G.r_TooMany.1⟩)) da_nil))))) sc__law_filled.nd)) (ds_cons (ds_append 1 (de_isM (m := "TooRich") G.x_all (by decide) (de_var 0) rfl G.g_isinstance rfl (by decide) (hmg := ⟨_, G.r_TooRich.1⟩))) (ds_one (ds_frz 1 (ds_ret (DN.toDE (dn_lc rfl sc__law_filled.nd (di_range1 rfl G.g_range (da_cons de_int da_nil)) (own := [("_law_k", 2)]) (blkOk_by (by show blkC N__law_filled (defScope s__law_filled) _ _ = true; decide +kernel)) (vsg := [2]) (by decide) (fun s H C cl fp => (dg_name 2 sc__law_filled.nd)) (fun s H C cl fp => (dts_one (db_val (de_ix (de_var 1) (de_var 2))))) (fun s H C cl fp => (de_var 2)))))))))))))) law
abbrev N__law_alone : List Str := ["_law_errors", "_law_others", "_law_k", "_law_error", "_law_every", "_law_strange"]
theorem sc__law_alone : FnScope N__law_alone ["_law_errors", "_law_others"] (defScope s__law_alone) := ⟨rfl, rfl, rfl, by decide +kernel, rfl, by decide +kernel, by decide +kernel⟩
def d__law_alone_4 : DS_ := (dRet (dAndV (dOp oEq (dVar 5) (dLst dNil)) (dOp oEq (dFrz (dLc (dSeqI (dVar 4)) (dgName 3) (dNot (dTst (dIsE (dVar 3)))) (dVar 3) [3])) (dLst dNil))))
def r__law_alone_4 : DS_ := d__law_alone_4
def d__law_alone_3 : DS_ := (dSetN 5 (dLc (dSeqI (dVar 4)) (dgName 3) (dNot (dTst (dIsM "SlipError" (dVar 3)))) (dVar 3) [3]))
def r__law_alone_3 : DS_ := dSeq d__law_alone_3 r__law_alone_4
def d__law_alone_2 : DS_ := (dSet 4 (dOp oAdd (dVar 0) (dVar 1)))
def r__law_alone_2 : DS_ := dSeq d__law_alone_2 r__law_alone_3
def d__law_alone_1 : DS_ := (dFor (dEnum (dCons (dVar 1) dNil)) (dgTup 2 (dgCons (dgName 2) (dgCons (dgName 3) dgNil))) (dIfS (dOr (dTst (dOp oNe (dCall sp__law_filled (dCons (dVar 3) dNil)) (dLst (dCons (dVar 2) dNil)))) (dTst (dOp oNe (dCall sp__law_plain (dCons (dVar 3) dNil)) (dLst dNil)))) (dRet (dC (.bl false))) dNext))
def r__law_alone_1 : DS_ := dSeq d__law_alone_1 r__law_alone_2
def d__law_alone_0 : DS_ := (dFor (dEnum (dCons (dVar 0) dNil)) (dgTup 2 (dgCons (dgName 2) (dgCons (dgName 3) dgNil))) (dIfS (dOr (dTst (dOp oNe (dCall sp__law_plain (dCons (dVar 3) dNil)) (dLst (dCons (dVar 2) dNil)))) (dTst (dOp oNe (dCall sp__law_filled (dCons (dVar 3) dNil)) (dLst dNil)))) (dRet (dC (.bl false))) dNext))
def r__law_alone_0 : DS_ := dSeq d__law_alone_0 r__law_alone_1
def d__law_alone : DS_ := r__law_alone_0
theorem w__law_alone {f : Addr} {fd : FuncData} {k : Nat} (F : Fun K "_law_alone" "_law_alone" s__law_alone f fd) (G : Gs K mg) (hsys : ∃ o, base.get? sysModules = some o) (C__law_filled : Cal P w K mg base k "_law_filled" ["_law_error"] sp__law_filled) (C__law_plain : Cal P w K mg base k "_law_plain" ["_law_error"] sp__law_plain)
    (len : ∀ ds Q E, sp__law_alone ds Q E → ds.length = 2) (law : ∀ ds Q E, sp__law_alone ds Q E → d__law_alone { nx := fun _ => Q .non, rt := Q, ex := E } (dstart 6 ds)) : GFn P w K mg base (k + 1) f fd ["_law_errors", "_law_others"] sp__law_alone := by
  exact gfn_mk F sc__law_alone len (fun cdv A outer s H E hr hgd => (ds_cons (ds_for (passes_of rfl) rfl (di_enum rfl G.g_enumerate (da_cons (de_var 0) da_nil)) (dg_tup (n := 2) rfl (dgs_cons (dg_name 2 sc__law_alone.nd) (dgs_cons (dg_name 3 sc__law_alone.nd) dgs_nil))) (ds_one (ds_if (DW.toDB (dw_or (db_ne hr (de_call C__law_plain hr hgd passD rfl (da_cons (de_var 3) da_nil)) (de_lst (da_cons (de_var 2) da_nil))) (dw_or1 (db_ne hr (de_call C__law_filled hr hgd passD rfl (da_cons (de_var 3) da_nil)) (de_lst da_nil))))) (ds_one (ds_ret de_bl)) ds_nil))) (ds_cons (ds_for (passes_of rfl) rfl (di_enum rfl G.g_enumerate (da_cons (de_var 1) da_nil)) (dg_tup (n := 2) rfl (dgs_cons (dg_name 2 sc__law_alone.nd) (dgs_cons (dg_name 3 sc__law_alone.nd) dgs_nil))) (ds_one (ds_if (DW.toDB (dw_or (db_ne hr (de_call C__law_filled hr hgd passD rfl (da_cons (de_var 3) da_nil)) (de_lst (da_cons (de_var 2) da_nil))) (dw_or1 (db_ne hr (de_call C__law_plain hr hgd passD rfl (da_cons (de_var 3) da_nil)) (de_lst da_nil))))) (ds_one (ds_ret de_bl)) ds_nil))) (ds_cons (ds_set 4 (de_add (de_var 0) (de_var 1)) sc__law_alone.nd) (ds_cons (ds_setLcN 5 rfl sc__law_alone.nd (di_seq (de_var 4)) (own := [("_law_error", 3)]) (blkOk_by (by show blkC N__law_alone (defScope s__law_alone) _ _ = true; decide +kernel)) (vsg := [3]) (by decide) (fun s H C cl fp => (dg_name 3 sc__law_alone.nd)) (fun s H C cl fp => (dts_one (db_not (db_val (de_isM (m := "SlipError") G.x_all (by decide) (de_var 3) rfl G.g_isinstance rfl (by decide) (hmg := ⟨_, G.r_SlipError.1⟩)))))) (fun s H C cl fp => (de_var 3)) rfl) (ds_one (ds_ret (de_and (de_eq hr (de_var 5) (de_lst da_nil)) (de_one (de_eq hr (DN.toDE (dn_lc rfl sc__law_alone.nd (di_seq (de_var 4)) (own := [("_law_error", 3)]) (blkOk_by (by show blkC N__law_alone (defScope s__law_alone) _ _ = true; decide +kernel)) (vsg := [3]) (by decide) (fun s H C cl fp => (dg_name 3 sc__law_alone.nd)) (fun s H C cl fp => (dts_one (db_not (db_val (de_isE G.x_all (de_var 3) rfl G.g_isinstance rfl G.g_ValueError))))) (fun s H C cl fp => (de_var 3)))) (de_lst da_nil))))))))))) law
abbrev N__law_made : List Str := ["_law_values", "_law_whole", "_law_pile", "_law_slip", "_law_text", "_law_sum_of", "_law_house", "_law_item", "_law_ring", "_law_state", "_law_time", "_law_poor", "_law_batch", "_law_deep", "_law_large", "_law_many", "_law_rich", "_law_fields", "_law_made_here"]
theorem sc__law_made : FnScope N__law_made ["_law_values"] (defScope s__law_made) := ⟨rfl, rfl, rfl, by decide +kernel, rfl, by decide +kernel, by decide +kernel⟩
def d__law_made_9 : DS_ := (dRet (dLst (dCons (dVar 18) (dCons (dOp oAdd (dVar 17) (dLst (dCons (dFldX "house" (dVar 16)) dNil))) dNil))))
def r__law_made_9 : DS_ := d__law_made_9
def d__law_made_8 : DS_ := (dSet 18 (dLst (dCons (dVar 1) (dCons (dVar 2) (dCons (dVar 3) (dCons (dVar 4) (dCons (dVar 5) (dCons (dVar 6) (dCons (dVar 7) (dCons (dVar 8) (dCons (dVar 9) (dCons (dVar 10) (dCons (dVar 11) (dCons (dVar 12) (dCons (dVar 13) (dCons (dVar 14) (dCons (dVar 15) (dCons (dVar 16) dNil))))))))))))))))))
def r__law_made_8 : DS_ := dSeq d__law_made_8 r__law_made_9
def d__law_made_7 : DS_ := (dSet 17 (dOp oAdd (dVar 17) (dLst (dCons (dFldX "error" (dVar 9)) (dCons (dFldX "version" (dVar 10)) (dCons (dFldX "house" (dVar 11)) (dCons (dFldX "index" (dVar 12)) (dCons (dFldX "house" (dVar 13)) (dCons (dFldX "limit" (dVar 14)) (dCons (dFldX "limit" (dVar 15)) dNil))))))))))
def r__law_made_7 : DS_ := dSeq d__law_made_7 r__law_made_8
def d__law_made_6 : DS_ := (dSet 17 (dLst (dCons (dFldX "error" (dVar 1)) (dCons (dFldX "error" (dVar 2)) (dCons (dFldX "index" (dVar 3)) (dCons (dFldX "index" (dVar 4)) (dCons (dFldX "amount" (dVar 5)) (dCons (dFldX "house" (dVar 6)) (dCons (dFldX "index" (dVar 7)) (dCons (dFldX "house" (dVar 8)) dNil))))))))))
def r__law_made_6 : DS_ := dSeq d__law_made_6 r__law_made_7
def d__law_made_5 : DS_ := (dPar 15 16 (dCons (dNewX 382 "limit" (dOp oIx (dVar 0) (dC (.it 14)))) (dCons (dNewX 413 "house" (dOp oIx (dVar 0) (dC (.it 15)))) dNil)))
def r__law_made_5 : DS_ := dSeq d__law_made_5 r__law_made_6
def d__law_made_4 : DS_ := (dPar 13 14 (dCons (dNewX 344 "house" (dOp oIx (dVar 0) (dC (.it 12)))) (dCons (dNewX 363 "limit" (dOp oIx (dVar 0) (dC (.it 13)))) dNil)))
def r__law_made_4 : DS_ := dSeq d__law_made_4 r__law_made_5
def d__law_made_3 : DS_ := (dPar3 10 11 12 (dCons (dNewX 275 "version" (dOp oIx (dVar 0) (dC (.it 9)))) (dCons (dNewX 306 "house" (dOp oIx (dVar 0) (dC (.it 10)))) (dCons (dNewX 325 "index" (dOp oIx (dVar 0) (dC (.it 11)))) dNil))))
def r__law_made_3 : DS_ := dSeq d__law_made_3 r__law_made_4
def d__law_made_2 : DS_ := (dPar3 7 8 9 (dCons (dNewX 194 "index" (dOp oIx (dVar 0) (dC (.it 6)))) (dCons (dNewX 213 "house" (dOp oIx (dVar 0) (dC (.it 7)))) (dCons (dNewX 232 "error" (dOp oIx (dVar 0) (dC (.it 8)))) dNil))))
def r__law_made_2 : DS_ := dSeq d__law_made_2 r__law_made_3
def d__law_made_1 : DS_ := (dPar3 4 5 6 (dCons (dNewX 113 "index" (dOp oIx (dVar 0) (dC (.it 3)))) (dCons (dNewX 144 "amount" (dOp oIx (dVar 0) (dC (.it 4)))) (dCons (dNewX 175 "house" (dOp oIx (dVar 0) (dC (.it 5)))) dNil))))
def r__law_made_1 : DS_ := dSeq d__law_made_1 r__law_made_2
def d__law_made_0 : DS_ := (dPar3 1 2 3 (dCons (dNewX 56 "error" (dOp oIx (dVar 0) (dC (.it 0)))) (dCons (dNewX 75 "error" (dOp oIx (dVar 0) (dC (.it 1)))) (dCons (dNewX 94 "index" (dOp oIx (dVar 0) (dC (.it 2)))) dNil))))
def r__law_made_0 : DS_ := dSeq d__law_made_0 r__law_made_1
def d__law_made : DS_ := r__law_made_0
theorem w__law_made {f : Addr} {fd : FuncData} {k : Nat} (F : Fun K "_law_made" "_law_made" s__law_made f fd) (G : Gs K mg) (hsys : ∃ o, base.get? sysModules = some o)
    (len : ∀ ds Q E, sp__law_made ds Q E → ds.length = 1) (law : ∀ ds Q E, sp__law_made ds Q E → d__law_made { nx := fun _ => Q .non, rt := Q, ex := E } (dstart 19 ds)) : GFn P w K mg base (k + 1) f fd ["_law_values"] sp__law_made := by
  exact gfn_mk F sc__law_made len (fun cdv A outer s H E hr hgd => (ds_cons (ds_par3 (i := 1) (j := 2) (l := 3) rfl sc__law_made.nd (da_cons (de_newX_error (by decide) G.r_BadBook.2.choose_spec G.r_BadBook.1 hr (de_ix (de_var 0) de_int) rfl) (da_cons (de_newX_error (by decide) G.r_BadPile.2.choose_spec G.r_BadPile.1 hr (de_ix (de_var 0) de_int) rfl) (da_cons (de_newX_index (by decide) G.r_BadSlip.2.choose_spec G.r_BadSlip.1 hr (de_ix (de_var 0) de_int) rfl) da_nil))) rfl) (ds_cons (ds_par3 (i := 4) (j := 5) (l := 6) rfl sc__law_made.nd (da_cons (de_newX_index (by decide) G.r_BadText.2.choose_spec G.r_BadText.1 hr (de_ix (de_var 0) de_int) rfl) (da_cons (de_newX_amount (by decide) G.r_NoAmount.2.choose_spec G.r_NoAmount.1 hr (de_ix (de_var 0) de_int) rfl) (da_cons (de_newX_house (by decide) G.r_NoHouse.2.choose_spec G.r_NoHouse.1 hr (de_ix (de_var 0) de_int) rfl) da_nil))) rfl) (ds_cons (ds_par3 (i := 7) (j := 8) (l := 9) rfl sc__law_made.nd (da_cons (de_newX_index (by decide) G.r_NoIndex.2.choose_spec G.r_NoIndex.1 hr (de_ix (de_var 0) de_int) rfl) (da_cons (de_newX_house (by decide) G.r_NoRing.2.choose_spec G.r_NoRing.1 hr (de_ix (de_var 0) de_int) rfl) (da_cons (de_newX_error (by decide) G.r_NoSettlement.2.choose_spec G.r_NoSettlement.1 hr (de_ix (de_var 0) de_int) rfl) da_nil))) rfl) (ds_cons (ds_par3 (i := 10) (j := 11) (l := 12) rfl sc__law_made.nd (da_cons (de_newX_version (by decide) G.r_NoVersion.2.choose_spec G.r_NoVersion.1 hr (de_ix (de_var 0) de_int) rfl) (da_cons (de_newX_house (by decide) G.r_Overdrawn.2.choose_spec G.r_Overdrawn.1 hr (de_ix (de_var 0) de_int) rfl) (da_cons (de_newX_index (by decide) G.r_Rejected.2.choose_spec G.r_Rejected.1 hr (de_ix (de_var 0) de_int) rfl) da_nil))) rfl) (ds_cons (ds_par (i := 13) (j := 14) rfl sc__law_made.nd (da_cons (de_newX_house (by decide) G.r_TooDeep.2.choose_spec G.r_TooDeep.1 hr (de_ix (de_var 0) de_int) rfl) (da_cons (de_newX_limit (by decide) G.r_TooLarge.2.choose_spec G.r_TooLarge.1 hr (de_ix (de_var 0) de_int) rfl) da_nil)) rfl) (ds_cons (ds_par (i := 15) (j := 16) rfl sc__law_made.nd (da_cons (de_newX_limit (by decide) G.r_TooMany.2.choose_spec G.r_TooMany.1 hr (de_ix (de_var 0) de_int) rfl) (da_cons (de_newX_house (by decide) G.r_TooRich.2.choose_spec G.r_TooRich.1 hr (de_ix (de_var 0) de_int) rfl) da_nil)) rfl) (ds_cons (ds_set 17 (de_lst (da_cons (de_fldX G.x_all (f := "error") (by decide) (de_var 1)) (da_cons (de_fldX G.x_all (f := "error") (by decide) (de_var 2)) (da_cons (de_fldX G.x_all (f := "index") (by decide) (de_var 3)) (da_cons (de_fldX G.x_all (f := "index") (by decide) (de_var 4)) (da_cons (de_fldX G.x_all (f := "amount") (by decide) (de_var 5)) (da_cons (de_fldX G.x_all (f := "house") (by decide) (de_var 6)) (da_cons (de_fldX G.x_all (f := "index") (by decide) (de_var 7)) (da_cons (de_fldX G.x_all (f := "house") (by decide) (de_var 8)) da_nil))))))))) sc__law_made.nd) (ds_cons (ds_set 17 (de_add (de_var 17) (de_lst (da_cons (de_fldX G.x_all (f := "error") (by decide) (de_var 9)) (da_cons (de_fldX G.x_all (f := "version") (by decide) (de_var 10)) (da_cons (de_fldX G.x_all (f := "house") (by decide) (de_var 11)) (da_cons (de_fldX G.x_all (f := "index") (by decide) (de_var 12)) (da_cons (de_fldX G.x_all (f := "house") (by decide) (de_var 13)) (da_cons (de_fldX G.x_all (f := "limit") (by decide) (de_var 14)) (da_cons (de_fldX G.x_all (f := "limit") (by decide) (de_var 15)) da_nil))))))))) sc__law_made.nd) (ds_cons (ds_set 18 (de_lst (da_cons (de_var 1) (da_cons (de_var 2) (da_cons (de_var 3) (da_cons (de_var 4) (da_cons (de_var 5) (da_cons (de_var 6) (da_cons (de_var 7) (da_cons (de_var 8) (da_cons (de_var 9) (da_cons (de_var 10) (da_cons (de_var 11) (da_cons (de_var 12) (da_cons (de_var 13) (da_cons (de_var 14) (da_cons (de_var 15) (da_cons (de_var 16) da_nil))))))))))))))))) sc__law_made.nd) (ds_one (ds_ret (de_lst (da_cons (de_var 18) (da_cons (de_add (de_var 17) (de_lst (da_cons (de_fldX G.x_all (f := "house") (by decide) (de_var 16)) da_nil))) da_nil))))))))))))))) law
abbrev N_law : List Str := ["_law_script", "_law_box", "_law_values", "_law_others", "_law_fields", "_law_errors", "_law_bag", "_law_error", "_law_bounds", "_law_k"]
theorem sc_law : FnScope N_law ["_law_script"] (defScope s_law) := ⟨rfl, rfl, rfl, by decide +kernel, rfl, by decide +kernel, by decide +kernel⟩
def d_law_9 : DS_ := (dRet (dOp oEq (dCB oRepr (dCons (dVar 8) dNil)) (dCB oRepr (dCons (dLst (dCons (dC (.it 20)) (dCons (dC (.it 30)) (dCons (dOp oPow (dC (.it 10)) (dC (.it 9))) (dCons (dC (.it 6)) (dCons (dOp oPow (dC (.it 10)) (dC (.it 12))) (dCons (dC (.it 6)) (dCons (dC (.it 400)) dNil)))))))) dNil))))
def r_law_9 : DS_ := d_law_9
def d_law_8 : DS_ := (dIfS (dTst (dOp oNe (dFldX "amount" (dVar 7)) (dLst (dCons (dC (.it 0)) (dCons (dC (.it 1)) dNil))))) (dRet (dC (.bl false))) dNext)
def r_law_8 : DS_ := dSeq d_law_8 r_law_9
def d_law_7 : DS_ := (dSet 8 (dLst (dCons (dC (.it 20)) (dCons (dC (.it 30)) (dCons (dC (.it 1000000000)) (dCons (dC (.it 6)) (dCons (dC (.it 1000000000000)) (dCons (dC (.it 6)) (dCons (dC (.it 400)) dNil)))))))))
def r_law_7 : DS_ := dSeq d_law_7 r_law_8
def r_law_5 : DS_ := (dBag 6 7 144 "amount" 1 r_law_7)
def d_law_4 : DS_ := (dSetO 6 (dLstN (dCons (dC (.it 0)) dNil)))
def r_law_4 : DS_ := dSeq d_law_4 r_law_5
def d_law_3 : DS_ := (dIfS (dOr (dTst (dOp oNe (dCB oRepr (dCons (dVar 4) dNil)) (dCB oRepr (dCons (dVar 2) dNil)))) (dNot (dTst (dCall sp__law_alone (dCons (dVar 5) (dCons (dVar 3) dNil)))))) (dRet (dC (.bl false))) dNext)
def r_law_3 : DS_ := dSeq d_law_3 r_law_4
def d_law_2 : DS_ := (dSet 5 (dLst (dCons (dNewX0 37) (dCons (dNewX0 125) (dCons (dNewX0 156) (dCons (dNewX0 244) (dCons (dNewX0 256) (dCons (dNewX0 287) (dCons (dNewX0 394) dNil)))))))))
def r_law_2 : DS_ := dSeq d_law_2 r_law_3
def d_law_1 : DS_ := (dAsg (dCall sp__law_made (dCons (dVar 2) dNil)) (dgLst 2 (dgCons (dgName 3) (dgCons (dgName 4) dgNil))))
def r_law_1 : DS_ := dSeq d_law_1 r_law_2
def d_law_0 : DS_ := (dSetN 2 (dLc (dRng1 (dCons (dC (.it 16)) dNil)) (dgName 9) dYes (dCall sp__law_odd (dCons (dVar 1) dNil)) [9]))
def r_law_0 : DS_ := dSeq d_law_0 r_law_1
def d_law : DS_ := r_law_0
theorem w_law {f : Addr} {k : Nat} (G : Gs K mg) (hsys : ∃ o, base.get? sysModules = some o) (C__law_alone : Cal P w K mg base k "_law_alone" ["_law_errors", "_law_others"] sp__law_alone) (C__law_made : Cal P w K mg base k "_law_made" ["_law_values"] sp__law_made) (C__law_odd : Cal P w K mg base k "_law_odd" ["_law_box"] sp__law_odd) (cdv : Value) (A : Around) (outer : List Env) (s : Shared) (H : Hp) (E : XK) (hr : Room k (A.deeper (envOfC "law" (defScope s_law) s.heap.objs.size f cdv))) (hgd : A.guards = some []) :
    DSs (cxD P w K mg base N_law "law" (defScope s_law) f cdv A outer s H E) E ((defBody s_law).drop 1) d_law := by
  obtain ⟨u_BATCH, hu_BATCH, hr_BATCH⟩ := G.c_BATCH
  obtain ⟨u_HISTORY, hu_HISTORY, hr_HISTORY⟩ := G.c_HISTORY
  obtain ⟨u_MAX_AMOUNT, hu_MAX_AMOUNT, hr_MAX_AMOUNT⟩ := G.c_MAX_AMOUNT
  obtain ⟨u_MAX_HOUSES, hu_MAX_HOUSES, hr_MAX_HOUSES⟩ := G.c_MAX_HOUSES
  obtain ⟨u_MAX_PURSE, hu_MAX_PURSE, hr_MAX_PURSE⟩ := G.c_MAX_PURSE
  obtain ⟨u_MAX_SLIPS, hu_MAX_SLIPS, hr_MAX_SLIPS⟩ := G.c_MAX_SLIPS
  obtain ⟨u_MAX_STEPS, hu_MAX_STEPS, hr_MAX_STEPS⟩ := G.c_MAX_STEPS
  have h : DSs (cxD P w K mg base N_law "law" (defScope s_law) f cdv A outer s H E) E ((defBody s_law).drop 1) _ := (ds_cons (ds_setLcN 2 rfl sc_law.nd (di_range1 rfl G.g_range (da_cons de_int da_nil)) (own := [("_law_k", 9)]) (blkOk_by (by show blkC N_law (defScope s_law) _ _ = true; decide +kernel)) (vsg := [9]) (by decide) (fun s H C cl fp => (dg_name 9 sc_law.nd)) (fun s H C cl fp => dts_nil) (fun s H C cl fp => (de_call C__law_odd hr hgd passL rfl (da_cons (de_var 1) da_nil))) rfl) (ds_cons (ds_asg (de_call C__law_made hr hgd passD rfl (da_cons (de_var 2) da_nil)) (dg_lst (n := 2) rfl (dgs_cons (dg_name 3 sc_law.nd) (dgs_cons (dg_name 4 sc_law.nd) dgs_nil)))) (ds_cons (ds_set 5 (de_lst (da_cons (de_newX0 (by decide) G.r_BadBatch.2 G.r_BadBatch.1 rfl) (da_cons (de_newX0 (by decide) G.r_Busy.2 G.r_Busy.1 rfl) (da_cons (de_newX0 (by decide) G.r_NoChoice.2 G.r_NoChoice.1 rfl) (da_cons (de_newX0 (by decide) G.r_NotBelow.2 G.r_NotBelow.1 rfl) (da_cons (de_newX0 (by decide) G.r_NothingToUndo.2 G.r_NothingToUndo.1 rfl) (da_cons (de_newX0 (by decide) G.r_OtherBook.2 G.r_OtherBook.1 rfl) (da_cons (de_newX0 (by decide) G.r_TooManyEdits.2 G.r_TooManyEdits.1 rfl) da_nil)))))))) sc_law.nd) (ds_cons (ds_if (DW.toDB (dw_or (db_ne hr (de_repr hr hgd hsys rfl G.g_repr (da_cons (de_var 4) da_nil)) (de_repr hr hgd hsys rfl G.g_repr (da_cons (de_var 2) da_nil))) (dw_or1 (db_not (db_val (de_call C__law_alone hr hgd passD rfl (da_cons (de_var 5) (da_cons (de_var 3) da_nil)))))))) (ds_one (ds_ret de_bl)) ds_nil) (ds_cons (ds_setO 6 (dn_lst (da_cons de_int da_nil)) sc_law.nd) (dss_bag 6 7 (by decide) G.r_NoAmount.2.choose_spec G.r_NoAmount.1 hr rfl sc_law.nd (ds_cons (ds_set 8 (de_lst (da_cons (de_globI rfl hu_BATCH hr_BATCH) (da_cons (de_globI rfl hu_HISTORY hr_HISTORY) (da_cons (de_globI rfl hu_MAX_AMOUNT hr_MAX_AMOUNT) (da_cons (de_globI rfl hu_MAX_HOUSES hr_MAX_HOUSES) (da_cons (de_globI rfl hu_MAX_PURSE hr_MAX_PURSE) (da_cons (de_globI rfl hu_MAX_SLIPS hr_MAX_SLIPS) (da_cons (de_globI rfl hu_MAX_STEPS hr_MAX_STEPS) da_nil)))))))) sc_law.nd) (ds_cons (ds_if (db_ne hr (de_fldX G.x_all (f := "amount") (by decide) (de_var 7)) (de_lst (da_cons de_int (da_cons de_int da_nil)))) (ds_one (ds_ret de_bl)) ds_nil) (ds_one (ds_ret (de_eq hr (de_repr hr hgd hsys rfl G.g_repr (da_cons (de_var 8) da_nil)) (de_repr hr hgd hsys rfl G.g_repr (da_cons (de_lst (da_cons de_int (da_cons de_int (da_cons (de_pow de_int de_int) (da_cons de_int (da_cons (de_pow de_int de_int) (da_cons de_int (da_cons de_int da_nil)))))))) da_nil)))))))))))))
  exact h
end
theorem ts_re {ps ps2 : SPat} {u : DS_} {De : DEnds} {P : Prop} (h : ps = ps2) (k : TS ps2 u De P) : TS ps u De P := h ▸ k
theorem law__law_plain : ∀ ds Q E, sp__law_plain ds Q E → d__law_plain { nx := fun _ => Q .non, rt := Q, ex := E } (dstart 3 ds) := by
  rintro ds Qd E ⟨error_1, Q, rfl, hr, q⟩
  have m : Me [some (.v (eA error_1)), none, none] [.v (eA error_1), .no, .no] := (me_of [.v (eA error_1), .no, .no]).sub (by repeat (first | exact True.intro | refine And.intro rfl ?_))
  have h : TS [some (.v (eA error_1)), none, none] (d__law_plain) { nx := fun _ => Qd .non, rt := Qd, ex := E } (bindP (bindW (bindW (bindW (pureW error_1) (isMW "BadBatch")) fun x => bindW (bindW (bindW (pureW error_1) (isMW "Busy")) fun x => bindW (bindW (bindW (pureW error_1) (isMW "NoChoice")) fun x => bindW (pureW []) fun xs => pureW (x :: xs)) fun xs => pureW (x :: xs)) fun xs => pureW (x :: xs)) szW) (fun kinds_2 => bindP (bindW (pureW kinds_2) fun x => bindW (bindW (bindW (bindW (pureW error_1) (isMW "NotBelow")) fun x => bindW (bindW (bindW (pureW error_1) (isMW "NothingToUndo")) fun x => bindW (bindW (bindW (pureW error_1) (isMW "OtherBook")) fun x => bindW (pureW []) fun xs => pureW (x :: xs)) fun xs => pureW (x :: xs)) fun xs => pureW (x :: xs)) szW) fun y => catW x y) (fun kinds_3 => bindP (bindW (pureW error_1) (isMW "TooManyEdits")) (fun z_4 => appP kinds_3 (((bindW (bindW (pureW (7 : Int)) rng1W) fun xs => lcW (fun a_5 => (bindW (pureW (kinds_3 ++ [z_4])) fun x => bindW (pureW a_5) fun y => ixW x y)) (fun a_5 => (pureW a_5)) xs) Q E))) E) E) E) := by
    simp only [d__law_plain, d__law_plain_3, r__law_plain_3, d__law_plain_2, r__law_plain_2, d__law_plain_1, r__law_plain_1, d__law_plain_0, r__law_plain_0]
    exact (ts_setO 1 (tn_lst (tl_cons (te_isM (te_var 0 (x := error_1) (e := eA) rfl)) (tl_cons (te_isM (te_var 0 (x := error_1) (e := eA) rfl)) (tl_cons (te_isM (te_var 0 (x := error_1) (e := eA) rfl)) tl_nil)))) (fun kinds_2 => (ts_re (ps2 := [some (.v (eA error_1)), some (.own ((kinds_2 : (List Bool)).map eB)), none]) rfl (ts_frz 1 (xs := kinds_2) rfl (ts_setO 1 (tn_cat (te_var 1 (x := kinds_2) (e := (eL eB)) rfl) (te_lstL (tl_cons (te_isM (te_var 0 (x := error_1) (e := eA) rfl)) (tl_cons (te_isM (te_var 0 (x := error_1) (e := eA) rfl)) (tl_cons (te_isM (te_var 0 (x := error_1) (e := eA) rfl)) tl_nil))))) (fun kinds_3 => (ts_re (ps2 := [some (.v (eA error_1)), some (.own ((kinds_3 : (List Bool)).map eB)), none]) rfl (ts_app 1 (xs := kinds_3) rfl (te_isM (te_var 0 (x := error_1) (e := eA) rfl)) (fun z_4 => (ts_frz1 1 (xs := (kinds_3 ++ [z_4])) rfl (ts_ret hr (te_frz (tn_lc (ps1 := fun a_5 => [some (.v (eA error_1)), some (.v ((eL eB) (kinds_3 ++ [z_4]))), some (.v (eI a_5))]) (ti_rng1 (te_int 7)) (fun a_5 => (tg_name 2)) (fun a_5 => (tb_tst (te_op o_ixL (te_var 1 (x := (kinds_3 ++ [z_4])) (e := (eL eB)) rfl) (te_var 2 (x := a_5) (e := eI) rfl)))) (fun a_5 => (te_var 2 (x := a_5) (e := eI) rfl)))))))))))))))
  exact h _ m (u__law_plain error_1 Q E q)
theorem law__law_filled : ∀ ds Q E, sp__law_filled ds Q E → d__law_filled { nx := fun _ => Q .non, rt := Q, ex := E } (dstart 3 ds) := by
  rintro ds Qd E ⟨error_6, Q, rfl, hr, q⟩
  have m : Me [some (.v (eA error_6)), none, none] [.v (eA error_6), .no, .no] := (me_of [.v (eA error_6), .no, .no]).sub (by repeat (first | exact True.intro | refine And.intro rfl ?_))
  have h : TS [some (.v (eA error_6)), none, none] (d__law_filled) { nx := fun _ => Qd .non, rt := Qd, ex := E } (bindP (bindW (bindW (bindW (pureW error_6) (isMW "BadBook")) fun x => bindW (bindW (bindW (pureW error_6) (isMW "BadPile")) fun x => bindW (bindW (bindW (pureW error_6) (isMW "BadSlip")) fun x => bindW (pureW []) fun xs => pureW (x :: xs)) fun xs => pureW (x :: xs)) fun xs => pureW (x :: xs)) szW) (fun kinds_7 => bindP (bindW (pureW kinds_7) fun x => bindW (bindW (bindW (bindW (pureW error_6) (isMW "BadText")) fun x => bindW (bindW (bindW (pureW error_6) (isMW "NoAmount")) fun x => bindW (bindW (bindW (pureW error_6) (isMW "NoHouse")) fun x => bindW (pureW []) fun xs => pureW (x :: xs)) fun xs => pureW (x :: xs)) fun xs => pureW (x :: xs)) szW) fun y => catW x y) (fun kinds_8 => bindP (bindW (pureW kinds_8) fun x => bindW (bindW (bindW (bindW (pureW error_6) (isMW "NoIndex")) fun x => bindW (bindW (bindW (pureW error_6) (isMW "NoRing")) fun x => bindW (bindW (bindW (pureW error_6) (isMW "NoSettlement")) fun x => bindW (pureW []) fun xs => pureW (x :: xs)) fun xs => pureW (x :: xs)) fun xs => pureW (x :: xs)) szW) fun y => catW x y) (fun kinds_9 => bindP (bindW (pureW kinds_9) fun x => bindW (bindW (bindW (bindW (pureW error_6) (isMW "NoVersion")) fun x => bindW (bindW (bindW (pureW error_6) (isMW "Overdrawn")) fun x => bindW (bindW (bindW (pureW error_6) (isMW "Rejected")) fun x => bindW (pureW []) fun xs => pureW (x :: xs)) fun xs => pureW (x :: xs)) fun xs => pureW (x :: xs)) szW) fun y => catW x y) (fun kinds_10 => bindP (bindW (pureW kinds_10) fun x => bindW (bindW (bindW (bindW (pureW error_6) (isMW "TooDeep")) fun x => bindW (bindW (bindW (pureW error_6) (isMW "TooLarge")) fun x => bindW (bindW (bindW (pureW error_6) (isMW "TooMany")) fun x => bindW (pureW []) fun xs => pureW (x :: xs)) fun xs => pureW (x :: xs)) fun xs => pureW (x :: xs)) szW) fun y => catW x y) (fun kinds_11 => bindP (bindW (pureW error_6) (isMW "TooRich")) (fun z_12 => appP kinds_11 (((bindW (bindW (pureW (16 : Int)) rng1W) fun xs => lcW (fun a_13 => (bindW (pureW (kinds_11 ++ [z_12])) fun x => bindW (pureW a_13) fun y => ixW x y)) (fun a_13 => (pureW a_13)) xs) Q E))) E) E) E) E) E) E) := by
    simp only [d__law_filled, d__law_filled_6, r__law_filled_6, d__law_filled_5, r__law_filled_5, d__law_filled_4, r__law_filled_4, d__law_filled_3, r__law_filled_3, d__law_filled_2, r__law_filled_2, d__law_filled_1, r__law_filled_1, d__law_filled_0, r__law_filled_0]
    exact (ts_setO 1 (tn_lst (tl_cons (te_isM (te_var 0 (x := error_6) (e := eA) rfl)) (tl_cons (te_isM (te_var 0 (x := error_6) (e := eA) rfl)) (tl_cons (te_isM (te_var 0 (x := error_6) (e := eA) rfl)) tl_nil)))) (fun kinds_7 => (ts_re (ps2 := [some (.v (eA error_6)), some (.own ((kinds_7 : (List Bool)).map eB)), none]) rfl (ts_frz 1 (xs := kinds_7) rfl (ts_setO 1 (tn_cat (te_var 1 (x := kinds_7) (e := (eL eB)) rfl) (te_lstL (tl_cons (te_isM (te_var 0 (x := error_6) (e := eA) rfl)) (tl_cons (te_isM (te_var 0 (x := error_6) (e := eA) rfl)) (tl_cons (te_isM (te_var 0 (x := error_6) (e := eA) rfl)) tl_nil))))) (fun kinds_8 => (ts_re (ps2 := [some (.v (eA error_6)), some (.own ((kinds_8 : (List Bool)).map eB)), none]) rfl (ts_frz 1 (xs := kinds_8) rfl (ts_setO 1 (tn_cat (te_var 1 (x := kinds_8) (e := (eL eB)) rfl) (te_lstL (tl_cons (te_isM (te_var 0 (x := error_6) (e := eA) rfl)) (tl_cons (te_isM (te_var 0 (x := error_6) (e := eA) rfl)) (tl_cons (te_isM (te_var 0 (x := error_6) (e := eA) rfl)) tl_nil))))) (fun kinds_9 => (ts_re (ps2 := [some (.v (eA error_6)), some (.own ((kinds_9 : (List Bool)).map eB)), none]) rfl (ts_frz 1 (xs := kinds_9) rfl (ts_setO 1 (tn_cat (te_var 1 (x := kinds_9) (e := (eL eB)) rfl) (te_lstL (tl_cons (te_isM (te_var 0 (x := error_6) (e := eA) rfl)) (tl_cons (te_isM (te_var 0 (x := error_6) (e := eA) rfl)) (tl_cons (te_isM (te_var 0 (x := error_6) (e := eA) rfl)) tl_nil))))) (fun kinds_10 => (ts_re (ps2 := [some (.v (eA error_6)), some (.own ((kinds_10 : (List Bool)).map eB)), none]) rfl (ts_frz 1 (xs := kinds_10) rfl (ts_setO 1 (tn_cat (te_var 1 (x := kinds_10) (e := (eL eB)) rfl) (te_lstL (tl_cons (te_isM (te_var 0 (x := error_6) (e := eA) rfl)) (tl_cons (te_isM (te_var 0 (x := error_6) (e := eA) rfl)) (tl_cons (te_isM (te_var 0 (x := error_6) (e := eA) rfl)) tl_nil))))) (fun kinds_11 => (ts_re (ps2 := [some (.v (eA error_6)), some (.own ((kinds_11 : (List Bool)).map eB)), none]) rfl (ts_app 1 (xs := kinds_11) rfl (te_isM (te_var 0 (x := error_6) (e := eA) rfl)) (fun z_12 => (ts_frz1 1 (xs := (kinds_11 ++ [z_12])) rfl (ts_ret hr (te_frz (tn_lc (ps1 := fun a_13 => [some (.v (eA error_6)), some (.v ((eL eB) (kinds_11 ++ [z_12]))), some (.v (eI a_13))]) (ti_rng1 (te_int 16)) (fun a_13 => (tg_name 2)) (fun a_13 => (tb_tst (te_op o_ixL (te_var 1 (x := (kinds_11 ++ [z_12])) (e := (eL eB)) rfl) (te_var 2 (x := a_13) (e := eI) rfl)))) (fun a_13 => (te_var 2 (x := a_13) (e := eI) rfl)))))))))))))))))))))))))))
  exact h _ m (u__law_filled error_6 Q E q)
theorem law__law_alone : ∀ ds Q E, sp__law_alone ds Q E → d__law_alone { nx := fun _ => Q .non, rt := Q, ex := E } (dstart 6 ds) := by
  rintro ds Qd E ⟨errors_14, others_15, Q, rfl, hr, q⟩
  have m : Me [some (.v ((eL eA) errors_14)), some (.v ((eL eA) others_15)), none, none, none, none] [.v ((eL eA) errors_14), .v ((eL eA) others_15), .no, .no, .no, .no] := (me_of [.v ((eL eA) errors_14), .v ((eL eA) others_15), .no, .no, .no, .no]).sub (by repeat (first | exact True.intro | refine And.intro rfl ?_))
  have h : TS [some (.v ((eL eA) errors_14)), some (.v ((eL eA) others_15)), none, none, none, none] (d__law_alone) { nx := fun _ => Qd .non, rt := Qd, ex := E } (bindP (bindW (pureW errors_14) fun xs => pureW (enI xs)) (fun xs => forP (fun x_19 (s_18 : Unit) N_20 B_21 => bindP (bindW (bindW (bindW (pureW x_19.2) fun x0 => t__law_plain x0) fun x => bindW (bindW (bindW (pureW x_19.1) fun x => bindW (pureW []) fun xs => pureW (x :: xs)) szW) fun y => neW x y) fun c => ifW c (pureW true) (bindW (bindW (pureW x_19.2) fun x0 => t__law_filled x0) fun x => bindW (bindW (pureW []) szW) fun y => neW x y)) (fun b => ifP b (((pureW false) Q E)) (N_20 ())) E) (fun (s_18 : Unit) => bindP (bindW (pureW others_15) fun xs => pureW (enI xs)) (fun xs => forP (fun x_28 (s_27 : Unit) N_29 B_30 => bindP (bindW (bindW (bindW (pureW x_28.2) fun x0 => t__law_filled x0) fun x => bindW (bindW (bindW (pureW x_28.1) fun x => bindW (pureW []) fun xs => pureW (x :: xs)) szW) fun y => neW x y) fun c => ifW c (pureW true) (bindW (bindW (pureW x_28.2) fun x0 => t__law_plain x0) fun x => bindW (bindW (pureW []) szW) fun y => neW x y)) (fun b => ifP b (((pureW false) Q E)) (N_29 ())) E) (fun (s_27 : Unit) => bindP (bindW (pureW errors_14) fun x => bindW (pureW others_15) fun y => catW x y) (fun every_34 => bindP (bindW (pureW every_34) fun xs => lcW (fun a_36 => (bindW (bindW (pureW a_36) (isMW "SlipError")) fun c => pureW (!c))) (fun a_36 => (pureW a_36)) xs) (fun strange_35 => ((bindW (bindW (bindW (pureW strange_35) fun x => pureW ((eL eA) x)) fun x => bindW (bindW (bindW (pureW []) szW) fun x => pureW ((eL eA) x)) fun y => eqA x y) fun c => ifW c (bindW (bindW (bindW (pureW every_34) fun xs => lcW (fun a_37 => (bindW (bindW (pureW a_37) isEW) fun c => pureW (!c))) (fun a_37 => (pureW a_37)) xs) fun x => pureW ((eL eA) x)) fun x => bindW (bindW (bindW (pureW []) szW) fun x => pureW ((eL eA) x)) fun y => eqA x y) (pureW false)) Q E)) E) E) xs ()) E) xs ()) E) := by
    simp only [d__law_alone, d__law_alone_4, r__law_alone_4, d__law_alone_3, r__law_alone_3, d__law_alone_2, r__law_alone_2, d__law_alone_1, r__law_alone_1, d__law_alone_0, r__law_alone_0]
    exact (ts_for (fun (s_18 : Unit) => [some (.v ((eL eA) errors_14)), some (.v ((eL eA) others_15)), none, none, none, none]) () (ps1 := fun x_19 s_18 => [some (.v ((eL eA) errors_14)), some (.v ((eL eA) others_15)), some (.v (eI x_19.1)), some (.v (eA x_19.2)), none, none]) (ti_enL (te_var 0 (x := errors_14) (e := (eL eA)) rfl)) (by repeat (first | exact True.intro | refine And.intro rfl ?_)) (fun x_19 s_18 => (tg_tup rfl (tgs_cons (tg_name 2) (tgs_cons (tg_name 3) tgs_nil)))) (fun x_19 s_18 N_20 nx_23 hN_22 => (ts_last (ts_seq0 (ts_if (tb_or (tb_tst (te_op (o_ne (eq_L eq_I) (by decide) ni_L) (te_call1 c__law_plain (te_var 3 (x := x_19.2) (e := eA) rfl)) (te_lstL (tl_cons (te_var 2 (x := x_19.1) (e := eI) rfl) tl_nil)))) (tb_tst (te_op (o_ne (eq_L eq_I) (by decide) ni_L) (te_call1 c__law_filled (te_var 3 (x := x_19.2) (e := eA) rfl)) (te_lstL (tl_nil : TL _ _ eI _))))) (ts_ret hr (te_bl false)) (ts_via (ts_fall hN_22 () (by repeat (first | exact True.intro | refine And.intro rfl ?_)))))))) (fun s_18 => (ts_for (fun (s_27 : Unit) => [some (.v ((eL eA) errors_14)), some (.v ((eL eA) others_15)), none, none, none, none]) () (ps1 := fun x_28 s_27 => [some (.v ((eL eA) errors_14)), some (.v ((eL eA) others_15)), some (.v (eI x_28.1)), some (.v (eA x_28.2)), none, none]) (ti_enL (te_var 1 (x := others_15) (e := (eL eA)) rfl)) (by repeat (first | exact True.intro | refine And.intro rfl ?_)) (fun x_28 s_27 => (tg_tup rfl (tgs_cons (tg_name 2) (tgs_cons (tg_name 3) tgs_nil)))) (fun x_28 s_27 N_29 nx_32 hN_31 => (ts_last (ts_seq0 (ts_if (tb_or (tb_tst (te_op (o_ne (eq_L eq_I) (by decide) ni_L) (te_call1 c__law_filled (te_var 3 (x := x_28.2) (e := eA) rfl)) (te_lstL (tl_cons (te_var 2 (x := x_28.1) (e := eI) rfl) tl_nil)))) (tb_tst (te_op (o_ne (eq_L eq_I) (by decide) ni_L) (te_call1 c__law_plain (te_var 3 (x := x_28.2) (e := eA) rfl)) (te_lstL (tl_nil : TL _ _ eI _))))) (ts_ret hr (te_bl false)) (ts_via (ts_fall hN_31 () (by repeat (first | exact True.intro | refine And.intro rfl ?_)))))))) (fun s_27 => (ts_set 4 (te_op o_catL (te_var 0 (x := errors_14) (e := (eL eA)) rfl) (te_var 1 (x := others_15) (e := (eL eA)) rfl)) (fun every_34 => (ts_re (ps2 := [some (.v ((eL eA) errors_14)), some (.v ((eL eA) others_15)), none, none, some (.v ((eL eA) every_34)), none]) rfl (ts_setN 5 (tn_lc (ps1 := fun a_36 => [some (.v ((eL eA) errors_14)), some (.v ((eL eA) others_15)), none, some (.v (eA a_36)), some (.v ((eL eA) every_34)), none]) (ti_L (te_var 4 (x := every_34) (e := (eL eA)) rfl)) (fun a_36 => (tg_name 3)) (fun a_36 => (tb_not (tb_tst (te_isM (te_var 3 (x := a_36) (e := eA) rfl))))) (fun a_36 => (te_var 3 (x := a_36) (e := eA) rfl))) (fun strange_35 => (ts_re (ps2 := [some (.v ((eL eA) errors_14)), some (.v ((eL eA) others_15)), none, none, some (.v ((eL eA) every_34)), some (.v ((eL eA) strange_35))]) rfl (ts_ret hr (te_and (te_op o_eqA (te_co (eL eA) (fun _ => rfl) (te_var 5 (x := strange_35) (e := (eL eA)) rfl)) (te_co (eL eA) (fun _ => rfl) (te_lstL (tl_nil : TL _ _ eA _)))) (te_op o_eqA (te_co (eL eA) (fun _ => rfl) (te_frz (tn_lc (ps1 := fun a_37 => [some (.v ((eL eA) errors_14)), some (.v ((eL eA) others_15)), none, some (.v (eA a_37)), some (.v ((eL eA) every_34)), some (.v ((eL eA) strange_35))]) (ti_L (te_var 4 (x := every_34) (e := (eL eA)) rfl)) (fun a_37 => (tg_name 3)) (fun a_37 => (tb_not (tb_tst (te_isE (te_var 3 (x := a_37) (e := eA) rfl))))) (fun a_37 => (te_var 3 (x := a_37) (e := eA) rfl))))) (te_co (eL eA) (fun _ => rfl) (te_lstL (tl_nil : TL _ _ eA _))))))))))))))))
  exact h _ m (u__law_alone t__law_plain t__law_filled errors_14 others_15 Q E q)
theorem law__law_made : ∀ ds Q E, sp__law_made ds Q E → d__law_made { nx := fun _ => Q .non, rt := Q, ex := E } (dstart 19 ds) := by
  rintro ds Qd E ⟨values_38, Q, rfl, hr, q⟩
  have m : Me [some (.v ((eL eA) values_38)), none, none, none, none, none, none, none, none, none, none, none, none, none, none, none, none, none, none] [.v ((eL eA) values_38), .no, .no, .no, .no, .no, .no, .no, .no, .no, .no, .no, .no, .no, .no, .no, .no, .no, .no] := (me_of [.v ((eL eA) values_38), .no, .no, .no, .no, .no, .no, .no, .no, .no, .no, .no, .no, .no, .no, .no, .no, .no, .no]).sub (by repeat (first | exact True.intro | refine And.intro rfl ?_))
  have h : TS [some (.v ((eL eA) values_38)), none, none, none, none, none, none, none, none, none, none, none, none, none, none, none, none, none, none] (d__law_made) { nx := fun _ => Qd .non, rt := Qd, ex := E } (bindP (bindW (bindW (pureW values_38) fun x => bindW (pureW (0 : Int)) fun y => ixW x y) fun x => pureW (D.vo 56 [("error", x)])) (fun whole_39 => bindP (bindW (bindW (pureW values_38) fun x => bindW (pureW (1 : Int)) fun y => ixW x y) fun x => pureW (D.vo 75 [("error", x)])) (fun pile_40 => bindP (bindW (bindW (pureW values_38) fun x => bindW (pureW (2 : Int)) fun y => ixW x y) fun x => pureW (D.vo 94 [("index", x)])) (fun slip_41 => bindP (bindW (bindW (pureW values_38) fun x => bindW (pureW (3 : Int)) fun y => ixW x y) fun x => pureW (D.vo 113 [("index", x)])) (fun text_42 => bindP (bindW (bindW (pureW values_38) fun x => bindW (pureW (4 : Int)) fun y => ixW x y) fun x => pureW (D.vo 144 [("amount", x)])) (fun sum_of_43 => bindP (bindW (bindW (pureW values_38) fun x => bindW (pureW (5 : Int)) fun y => ixW x y) fun x => pureW (D.vo 175 [("house", x)])) (fun house_44 => bindP (bindW (bindW (pureW values_38) fun x => bindW (pureW (6 : Int)) fun y => ixW x y) fun x => pureW (D.vo 194 [("index", x)])) (fun item_45 => bindP (bindW (bindW (pureW values_38) fun x => bindW (pureW (7 : Int)) fun y => ixW x y) fun x => pureW (D.vo 213 [("house", x)])) (fun ring_46 => bindP (bindW (bindW (pureW values_38) fun x => bindW (pureW (8 : Int)) fun y => ixW x y) fun x => pureW (D.vo 232 [("error", x)])) (fun state_47 => bindP (bindW (bindW (pureW values_38) fun x => bindW (pureW (9 : Int)) fun y => ixW x y) fun x => pureW (D.vo 275 [("version", x)])) (fun time_48 => bindP (bindW (bindW (pureW values_38) fun x => bindW (pureW (10 : Int)) fun y => ixW x y) fun x => pureW (D.vo 306 [("house", x)])) (fun poor_49 => bindP (bindW (bindW (pureW values_38) fun x => bindW (pureW (11 : Int)) fun y => ixW x y) fun x => pureW (D.vo 325 [("index", x)])) (fun batch_50 => bindP (bindW (bindW (pureW values_38) fun x => bindW (pureW (12 : Int)) fun y => ixW x y) fun x => pureW (D.vo 344 [("house", x)])) (fun deep_51 => bindP (bindW (bindW (pureW values_38) fun x => bindW (pureW (13 : Int)) fun y => ixW x y) fun x => pureW (D.vo 363 [("limit", x)])) (fun large_52 => bindP (bindW (bindW (pureW values_38) fun x => bindW (pureW (14 : Int)) fun y => ixW x y) fun x => pureW (D.vo 382 [("limit", x)])) (fun many_53 => bindP (bindW (bindW (pureW values_38) fun x => bindW (pureW (15 : Int)) fun y => ixW x y) fun x => pureW (D.vo 413 [("house", x)])) (fun rich_54 => bindP (bindW (bindW (bindW (pureW whole_39) (fldXW "error")) fun x => bindW (bindW (bindW (pureW pile_40) (fldXW "error")) fun x => bindW (bindW (bindW (pureW slip_41) (fldXW "index")) fun x => bindW (bindW (bindW (pureW text_42) (fldXW "index")) fun x => bindW (bindW (bindW (pureW sum_of_43) (fldXW "amount")) fun x => bindW (bindW (bindW (pureW house_44) (fldXW "house")) fun x => bindW (bindW (bindW (pureW item_45) (fldXW "index")) fun x => bindW (bindW (bindW (pureW ring_46) (fldXW "house")) fun x => bindW (pureW []) fun xs => pureW (x :: xs)) fun xs => pureW (x :: xs)) fun xs => pureW (x :: xs)) fun xs => pureW (x :: xs)) fun xs => pureW (x :: xs)) fun xs => pureW (x :: xs)) fun xs => pureW (x :: xs)) fun xs => pureW (x :: xs)) szW) (fun fields_55 => bindP (bindW (pureW fields_55) fun x => bindW (bindW (bindW (bindW (pureW state_47) (fldXW "error")) fun x => bindW (bindW (bindW (pureW time_48) (fldXW "version")) fun x => bindW (bindW (bindW (pureW poor_49) (fldXW "house")) fun x => bindW (bindW (bindW (pureW batch_50) (fldXW "index")) fun x => bindW (bindW (bindW (pureW deep_51) (fldXW "house")) fun x => bindW (bindW (bindW (pureW large_52) (fldXW "limit")) fun x => bindW (bindW (bindW (pureW many_53) (fldXW "limit")) fun x => bindW (pureW []) fun xs => pureW (x :: xs)) fun xs => pureW (x :: xs)) fun xs => pureW (x :: xs)) fun xs => pureW (x :: xs)) fun xs => pureW (x :: xs)) fun xs => pureW (x :: xs)) fun xs => pureW (x :: xs)) szW) fun y => catW x y) (fun fields_56 => bindP (bindW (bindW (pureW whole_39) fun x => bindW (bindW (pureW pile_40) fun x => bindW (bindW (pureW slip_41) fun x => bindW (bindW (pureW text_42) fun x => bindW (bindW (pureW sum_of_43) fun x => bindW (bindW (pureW house_44) fun x => bindW (bindW (pureW item_45) fun x => bindW (bindW (pureW ring_46) fun x => bindW (bindW (pureW state_47) fun x => bindW (bindW (pureW time_48) fun x => bindW (bindW (pureW poor_49) fun x => bindW (bindW (pureW batch_50) fun x => bindW (bindW (pureW deep_51) fun x => bindW (bindW (pureW large_52) fun x => bindW (bindW (pureW many_53) fun x => bindW (bindW (pureW rich_54) fun x => bindW (pureW []) fun xs => pureW (x :: xs)) fun xs => pureW (x :: xs)) fun xs => pureW (x :: xs)) fun xs => pureW (x :: xs)) fun xs => pureW (x :: xs)) fun xs => pureW (x :: xs)) fun xs => pureW (x :: xs)) fun xs => pureW (x :: xs)) fun xs => pureW (x :: xs)) fun xs => pureW (x :: xs)) fun xs => pureW (x :: xs)) fun xs => pureW (x :: xs)) fun xs => pureW (x :: xs)) fun xs => pureW (x :: xs)) fun xs => pureW (x :: xs)) fun xs => pureW (x :: xs)) szW) (fun made_here_57 => ((bindW (pureW made_here_57) fun x => bindW (bindW (pureW fields_56) fun x => bindW (bindW (bindW (bindW (pureW rich_54) (fldXW "house")) fun x => bindW (pureW []) fun xs => pureW (x :: xs)) szW) fun y => catW x y) fun y => pureW (x, y)) Q E)) E) E) E) E) E) E) E) E) E) E) E) E) E) E) E) E) E) E) E) := by
    simp only [d__law_made, d__law_made_9, r__law_made_9, d__law_made_8, r__law_made_8, d__law_made_7, r__law_made_7, d__law_made_6, r__law_made_6, d__law_made_5, r__law_made_5, d__law_made_4, r__law_made_4, d__law_made_3, r__law_made_3, d__law_made_2, r__law_made_2, d__law_made_1, r__law_made_1, d__law_made_0, r__law_made_0]
    exact (ts_par3 1 2 3 (te_newX (te_op o_ixL (te_var 0 (x := values_38) (e := (eL eA)) rfl) (te_int 0))) (te_newX (te_op o_ixL (te_var 0 (x := values_38) (e := (eL eA)) rfl) (te_int 1))) (te_newX (te_op o_ixL (te_var 0 (x := values_38) (e := (eL eA)) rfl) (te_int 2))) (fun whole_39 pile_40 slip_41 => (ts_re (ps2 := [some (.v ((eL eA) values_38)), some (.v (eA whole_39)), some (.v (eA pile_40)), some (.v (eA slip_41)), none, none, none, none, none, none, none, none, none, none, none, none, none, none, none]) rfl (ts_par3 4 5 6 (te_newX (te_op o_ixL (te_var 0 (x := values_38) (e := (eL eA)) rfl) (te_int 3))) (te_newX (te_op o_ixL (te_var 0 (x := values_38) (e := (eL eA)) rfl) (te_int 4))) (te_newX (te_op o_ixL (te_var 0 (x := values_38) (e := (eL eA)) rfl) (te_int 5))) (fun text_42 sum_of_43 house_44 => (ts_re (ps2 := [some (.v ((eL eA) values_38)), some (.v (eA whole_39)), some (.v (eA pile_40)), some (.v (eA slip_41)), some (.v (eA text_42)), some (.v (eA sum_of_43)), some (.v (eA house_44)), none, none, none, none, none, none, none, none, none, none, none, none]) rfl (ts_par3 7 8 9 (te_newX (te_op o_ixL (te_var 0 (x := values_38) (e := (eL eA)) rfl) (te_int 6))) (te_newX (te_op o_ixL (te_var 0 (x := values_38) (e := (eL eA)) rfl) (te_int 7))) (te_newX (te_op o_ixL (te_var 0 (x := values_38) (e := (eL eA)) rfl) (te_int 8))) (fun item_45 ring_46 state_47 => (ts_re (ps2 := [some (.v ((eL eA) values_38)), some (.v (eA whole_39)), some (.v (eA pile_40)), some (.v (eA slip_41)), some (.v (eA text_42)), some (.v (eA sum_of_43)), some (.v (eA house_44)), some (.v (eA item_45)), some (.v (eA ring_46)), some (.v (eA state_47)), none, none, none, none, none, none, none, none, none]) rfl (ts_par3 10 11 12 (te_newX (te_op o_ixL (te_var 0 (x := values_38) (e := (eL eA)) rfl) (te_int 9))) (te_newX (te_op o_ixL (te_var 0 (x := values_38) (e := (eL eA)) rfl) (te_int 10))) (te_newX (te_op o_ixL (te_var 0 (x := values_38) (e := (eL eA)) rfl) (te_int 11))) (fun time_48 poor_49 batch_50 => (ts_re (ps2 := [some (.v ((eL eA) values_38)), some (.v (eA whole_39)), some (.v (eA pile_40)), some (.v (eA slip_41)), some (.v (eA text_42)), some (.v (eA sum_of_43)), some (.v (eA house_44)), some (.v (eA item_45)), some (.v (eA ring_46)), some (.v (eA state_47)), some (.v (eA time_48)), some (.v (eA poor_49)), some (.v (eA batch_50)), none, none, none, none, none, none]) rfl (ts_par 13 14 (te_newX (te_op o_ixL (te_var 0 (x := values_38) (e := (eL eA)) rfl) (te_int 12))) (te_newX (te_op o_ixL (te_var 0 (x := values_38) (e := (eL eA)) rfl) (te_int 13))) (fun deep_51 large_52 => (ts_re (ps2 := [some (.v ((eL eA) values_38)), some (.v (eA whole_39)), some (.v (eA pile_40)), some (.v (eA slip_41)), some (.v (eA text_42)), some (.v (eA sum_of_43)), some (.v (eA house_44)), some (.v (eA item_45)), some (.v (eA ring_46)), some (.v (eA state_47)), some (.v (eA time_48)), some (.v (eA poor_49)), some (.v (eA batch_50)), some (.v (eA deep_51)), some (.v (eA large_52)), none, none, none, none]) rfl (ts_par 15 16 (te_newX (te_op o_ixL (te_var 0 (x := values_38) (e := (eL eA)) rfl) (te_int 14))) (te_newX (te_op o_ixL (te_var 0 (x := values_38) (e := (eL eA)) rfl) (te_int 15))) (fun many_53 rich_54 => (ts_re (ps2 := [some (.v ((eL eA) values_38)), some (.v (eA whole_39)), some (.v (eA pile_40)), some (.v (eA slip_41)), some (.v (eA text_42)), some (.v (eA sum_of_43)), some (.v (eA house_44)), some (.v (eA item_45)), some (.v (eA ring_46)), some (.v (eA state_47)), some (.v (eA time_48)), some (.v (eA poor_49)), some (.v (eA batch_50)), some (.v (eA deep_51)), some (.v (eA large_52)), some (.v (eA many_53)), some (.v (eA rich_54)), none, none]) rfl (ts_set 17 (te_lstL (tl_cons (te_fldX (te_var 1 (x := whole_39) (e := eA) rfl)) (tl_cons (te_fldX (te_var 2 (x := pile_40) (e := eA) rfl)) (tl_cons (te_fldX (te_var 3 (x := slip_41) (e := eA) rfl)) (tl_cons (te_fldX (te_var 4 (x := text_42) (e := eA) rfl)) (tl_cons (te_fldX (te_var 5 (x := sum_of_43) (e := eA) rfl)) (tl_cons (te_fldX (te_var 6 (x := house_44) (e := eA) rfl)) (tl_cons (te_fldX (te_var 7 (x := item_45) (e := eA) rfl)) (tl_cons (te_fldX (te_var 8 (x := ring_46) (e := eA) rfl)) tl_nil))))))))) (fun fields_55 => (ts_re (ps2 := [some (.v ((eL eA) values_38)), some (.v (eA whole_39)), some (.v (eA pile_40)), some (.v (eA slip_41)), some (.v (eA text_42)), some (.v (eA sum_of_43)), some (.v (eA house_44)), some (.v (eA item_45)), some (.v (eA ring_46)), some (.v (eA state_47)), some (.v (eA time_48)), some (.v (eA poor_49)), some (.v (eA batch_50)), some (.v (eA deep_51)), some (.v (eA large_52)), some (.v (eA many_53)), some (.v (eA rich_54)), some (.v ((eL eA) fields_55)), none]) rfl (ts_set 17 (te_op o_catL (te_var 17 (x := fields_55) (e := (eL eA)) rfl) (te_lstL (tl_cons (te_fldX (te_var 9 (x := state_47) (e := eA) rfl)) (tl_cons (te_fldX (te_var 10 (x := time_48) (e := eA) rfl)) (tl_cons (te_fldX (te_var 11 (x := poor_49) (e := eA) rfl)) (tl_cons (te_fldX (te_var 12 (x := batch_50) (e := eA) rfl)) (tl_cons (te_fldX (te_var 13 (x := deep_51) (e := eA) rfl)) (tl_cons (te_fldX (te_var 14 (x := large_52) (e := eA) rfl)) (tl_cons (te_fldX (te_var 15 (x := many_53) (e := eA) rfl)) tl_nil))))))))) (fun fields_56 => (ts_re (ps2 := [some (.v ((eL eA) values_38)), some (.v (eA whole_39)), some (.v (eA pile_40)), some (.v (eA slip_41)), some (.v (eA text_42)), some (.v (eA sum_of_43)), some (.v (eA house_44)), some (.v (eA item_45)), some (.v (eA ring_46)), some (.v (eA state_47)), some (.v (eA time_48)), some (.v (eA poor_49)), some (.v (eA batch_50)), some (.v (eA deep_51)), some (.v (eA large_52)), some (.v (eA many_53)), some (.v (eA rich_54)), some (.v ((eL eA) fields_56)), none]) rfl (ts_set 18 (te_lstL (tl_cons (te_var 1 (x := whole_39) (e := eA) rfl) (tl_cons (te_var 2 (x := pile_40) (e := eA) rfl) (tl_cons (te_var 3 (x := slip_41) (e := eA) rfl) (tl_cons (te_var 4 (x := text_42) (e := eA) rfl) (tl_cons (te_var 5 (x := sum_of_43) (e := eA) rfl) (tl_cons (te_var 6 (x := house_44) (e := eA) rfl) (tl_cons (te_var 7 (x := item_45) (e := eA) rfl) (tl_cons (te_var 8 (x := ring_46) (e := eA) rfl) (tl_cons (te_var 9 (x := state_47) (e := eA) rfl) (tl_cons (te_var 10 (x := time_48) (e := eA) rfl) (tl_cons (te_var 11 (x := poor_49) (e := eA) rfl) (tl_cons (te_var 12 (x := batch_50) (e := eA) rfl) (tl_cons (te_var 13 (x := deep_51) (e := eA) rfl) (tl_cons (te_var 14 (x := large_52) (e := eA) rfl) (tl_cons (te_var 15 (x := many_53) (e := eA) rfl) (tl_cons (te_var 16 (x := rich_54) (e := eA) rfl) tl_nil))))))))))))))))) (fun made_here_57 => (ts_re (ps2 := [some (.v ((eL eA) values_38)), some (.v (eA whole_39)), some (.v (eA pile_40)), some (.v (eA slip_41)), some (.v (eA text_42)), some (.v (eA sum_of_43)), some (.v (eA house_44)), some (.v (eA item_45)), some (.v (eA ring_46)), some (.v (eA state_47)), some (.v (eA time_48)), some (.v (eA poor_49)), some (.v (eA batch_50)), some (.v (eA deep_51)), some (.v (eA large_52)), some (.v (eA many_53)), some (.v (eA rich_54)), some (.v ((eL eA) fields_56)), some (.v ((eL eA) made_here_57))]) rfl (ts_ret hr (te_lst2 (te_var 18 (x := made_here_57) (e := (eL eA)) rfl) (te_op o_catL (te_var 17 (x := fields_56) (e := (eL eA)) rfl) (te_lstL (tl_cons (te_fldX (te_var 16 (x := rich_54) (e := eA) rfl)) tl_nil))))))))))))))))))))))))))))))))
  exact h _ m (u__law_made values_38 Q E q)
theorem tlaw_gen (Q : Bool → Prop) (E : EK) (hr : ∀ r, Q r → (fun x => x = D.bl true) (eB r)) (q : t_law Q E) : ∀ s0, d_law { nx := fun _ => False, rt := fun x => x = .bl true, ex := E } [s0, .v (dBox), .no, .no, .no, .no, .no, .no, .no, .no] := by
  intro s0
  have m : Me [none, some (.v (eBx ())), none, none, none, none, none, none, none, none] [s0, .v (eBx ()), .no, .no, .no, .no, .no, .no, .no, .no] := (me_of [s0, .v (eBx ()), .no, .no, .no, .no, .no, .no, .no, .no]).sub (by repeat (first | exact True.intro | refine And.intro rfl ?_))
  have h : TS [none, some (.v (eBx ())), none, none, none, none, none, none, none, none] d_law { nx := fun _ => False, rt := fun x => x = .bl true, ex := E } (bindP (bindW (bindW (pureW (16 : Int)) rng1W) fun xs => lcW (fun a_59 => (pureW true)) (fun a_59 => (bindW (pureW ()) fun x0 => t__law_odd x0)) xs) (fun values_58 => bindP (bindW (pureW values_58) fun x0 => t__law_made x0) (fun z_60 => bindP (bindW (bindW (pureW (D.vo 37 [])) fun x => bindW (bindW (pureW (D.vo 125 [])) fun x => bindW (bindW (pureW (D.vo 156 [])) fun x => bindW (bindW (pureW (D.vo 244 [])) fun x => bindW (bindW (pureW (D.vo 256 [])) fun x => bindW (bindW (pureW (D.vo 287 [])) fun x => bindW (bindW (pureW (D.vo 394 [])) fun x => bindW (pureW []) fun xs => pureW (x :: xs)) fun xs => pureW (x :: xs)) fun xs => pureW (x :: xs)) fun xs => pureW (x :: xs)) fun xs => pureW (x :: xs)) fun xs => pureW (x :: xs)) fun xs => pureW (x :: xs)) szW) (fun errors_61 => bindP (bindW (bindW (bindW (pureW z_60.2) (fun x => reprW ((eL eA) x))) fun x => bindW (bindW (pureW values_58) (fun x => reprW ((eL eA) x))) fun y => neW x y) fun c => ifW c (pureW true) (bindW (bindW (pureW errors_61) fun x0 => bindW (pureW z_60.1) fun x1 => t__law_alone x0 x1) fun c => pureW (!c))) (fun b => ifP b (((pureW false) Q E)) (bindP (bindW (bindW (pureW (0 : Int)) fun x => bindW (pureW []) fun xs => pureW (x :: xs)) szW) (fun bag_62 => appP bag_62 (bindP (bindW (bindW (pureW (20 : Int)) fun x => bindW (bindW (pureW (30 : Int)) fun x => bindW (bindW (pureW (1000000000 : Int)) fun x => bindW (bindW (pureW (6 : Int)) fun x => bindW (bindW (pureW (1000000000000 : Int)) fun x => bindW (bindW (pureW (6 : Int)) fun x => bindW (bindW (pureW (400 : Int)) fun x => bindW (pureW []) fun xs => pureW (x :: xs)) fun xs => pureW (x :: xs)) fun xs => pureW (x :: xs)) fun xs => pureW (x :: xs)) fun xs => pureW (x :: xs)) fun xs => pureW (x :: xs)) fun xs => pureW (x :: xs)) szW) (fun bounds_63 => bindP (bindW (bindW (pureW (D.vo 144 [("amount", eL eI (bag_62 ++ [(1 : Int)]))])) (fldXW "amount")) fun x => bindW (bindW (bindW (bindW (pureW (0 : Int)) fun x => bindW (bindW (pureW (1 : Int)) fun x => bindW (pureW []) fun xs => pureW (x :: xs)) fun xs => pureW (x :: xs)) szW) fun x => pureW ((eL eI) x)) fun y => neA x y) (fun b => ifP b (((pureW false) Q E)) (((bindW (bindW (pureW bounds_63) (fun x => reprW ((eL eI) x))) fun x => bindW (bindW (bindW (bindW (pureW (20 : Int)) fun x => bindW (bindW (pureW (30 : Int)) fun x => bindW (bindW (bindW (pureW (10 : Int)) fun x => bindW (pureW (9 : Int)) fun y => powI x y) fun x => bindW (bindW (pureW (6 : Int)) fun x => bindW (bindW (bindW (pureW (10 : Int)) fun x => bindW (pureW (12 : Int)) fun y => powI x y) fun x => bindW (bindW (pureW (6 : Int)) fun x => bindW (bindW (pureW (400 : Int)) fun x => bindW (pureW []) fun xs => pureW (x :: xs)) fun xs => pureW (x :: xs)) fun xs => pureW (x :: xs)) fun xs => pureW (x :: xs)) fun xs => pureW (x :: xs)) fun xs => pureW (x :: xs)) fun xs => pureW (x :: xs)) szW) (fun x => reprW ((eL eI) x))) fun y => eqW x y) Q E))) E) E)) E)) E) E) E) E) := by
    simp only [d_law, d_law_9, r_law_9, d_law_8, r_law_8, d_law_7, r_law_7, r_law_5, d_law_4, r_law_4, d_law_3, r_law_3, d_law_2, r_law_2, d_law_1, r_law_1, d_law_0, r_law_0]
    exact (ts_setN 2 (tn_lc (ps1 := fun a_59 => [none, some (.v (eBx ())), none, none, none, none, none, none, none, some (.v (eI a_59))]) (ti_rng1 (te_int 16)) (fun a_59 => (tg_name 9)) (fun a_59 => tb_yes) (fun a_59 => (te_call1 c__law_odd (te_var 1 (x := ()) (e := eBx) rfl)))) (fun values_58 => (ts_re (ps2 := [none, some (.v (eBx ())), some (.v ((eL eA) values_58)), none, none, none, none, none, none, none]) rfl (ts_asg (ps1 := fun z_60 => [none, some (.v (eBx ())), some (.v ((eL eA) values_58)), some (.v ((eL eA) z_60.1)), some (.v ((eL eA) z_60.2)), none, none, none, none, none]) (te_call1 c__law_made (te_var 2 (x := values_58) (e := (eL eA)) rfl)) (fun z_60 => (tg_lst rfl (tgs_cons (tg_name 3) (tgs_cons (tg_name 4) tgs_nil)))) (fun z_60 => (ts_re (ps2 := [none, some (.v (eBx ())), some (.v ((eL eA) values_58)), some (.v ((eL eA) z_60.1)), some (.v ((eL eA) z_60.2)), none, none, none, none, none]) rfl (ts_set 5 (te_lstL (tl_cons te_newX0 (tl_cons te_newX0 (tl_cons te_newX0 (tl_cons te_newX0 (tl_cons te_newX0 (tl_cons te_newX0 (tl_cons te_newX0 tl_nil)))))))) (fun errors_61 => (ts_re (ps2 := [none, some (.v (eBx ())), some (.v ((eL eA) values_58)), some (.v ((eL eA) z_60.1)), some (.v ((eL eA) z_60.2)), some (.v ((eL eA) errors_61)), none, none, none, none]) rfl (ts_seq0 (ts_if (tb_or (tb_tst (te_op (o_ne eq_S (by decide) ni_S) (te_cb1 o_repr (te_var 4 (x := z_60.2) (e := (eL eA)) rfl)) (te_cb1 o_repr (te_var 2 (x := values_58) (e := (eL eA)) rfl)))) (tb_not (tb_tst (te_call2 c__law_alone (te_var 5 (x := errors_61) (e := (eL eA)) rfl) (te_var 3 (x := z_60.1) (e := (eL eA)) rfl))))) (ts_ret hr (te_bl false)) (ts_via (ts_setO 6 (tn_lst (tl_cons (te_int 0) tl_nil)) (fun bag_62 => (ts_re (ps2 := [none, some (.v (eBx ())), some (.v ((eL eA) values_58)), some (.v ((eL eA) z_60.1)), some (.v ((eL eA) z_60.2)), some (.v ((eL eA) errors_61)), some (.own ((bag_62 : (List Int)).map eI)), none, none, none]) rfl (ts_bag 6 7 (by decide) (xs := bag_62) rfl (ts_set 8 (te_lstL (tl_cons (te_int 20) (tl_cons (te_int 30) (tl_cons (te_int 1000000000) (tl_cons (te_int 6) (tl_cons (te_int 1000000000000) (tl_cons (te_int 6) (tl_cons (te_int 400) tl_nil)))))))) (fun bounds_63 => (ts_re (ps2 := [none, some (.v (eBx ())), some (.v ((eL eA) values_58)), some (.v ((eL eA) z_60.1)), some (.v ((eL eA) z_60.2)), some (.v ((eL eA) errors_61)), some (.v ((eL eI) (bag_62 ++ [(1 : Int)]))), some (.v (eA (D.vo 144 [("amount", eL eI (bag_62 ++ [(1 : Int)]))]))), some (.v ((eL eI) bounds_63)), none]) rfl (ts_seq0 (ts_if (tb_tst (te_op o_neA (te_fldX (te_var 7 (x := (D.vo 144 [("amount", eL eI (bag_62 ++ [(1 : Int)]))])) (e := eA) rfl)) (te_co (eL eI) (fun _ => rfl) (te_lstL (tl_cons (te_int 0) (tl_cons (te_int 1) tl_nil)))))) (ts_ret hr (te_bl false)) (ts_via (ts_ret hr (te_op (o_eq eq_S (by decide) ni_S) (te_cb1 o_repr (te_var 8 (x := bounds_63) (e := (eL eI)) rfl)) (te_cb1 o_repr (te_lstL (tl_cons (te_int 20) (tl_cons (te_int 30) (tl_cons (te_op o_pow (te_int 10) (te_int 9)) (tl_cons (te_int 6) (tl_cons (te_op o_pow (te_int 10) (te_int 12)) (tl_cons (te_int 6) (tl_cons (te_int 400) tl_nil)))))))))))))))))))))))))))))))))
  exact h _ m (u_law t__law_odd t__law_made t__law_alone Q E q)
theorem tlaw_law (q : t_law (fun b => b = true) (fun _ => False)) : ∀ s0, d_law { nx := fun _ => False, rt := fun x => x = .bl true, ex := fun _ => False } [s0, .v (dBox), .no, .no, .no, .no, .no, .no, .no, .no] := tlaw_gen _ _ (fun r h => by show D.bl r = D.bl true; rw [show r = true from h]) q
section
variable {α β σ : Type}
theorem szle {n : Nat} (h : n ≤ 16000000) : szOk n := by show n ≤ sizeLine; rw [sizeLine_eq]; omega
theorem szlt {n : Nat} (h : n ≤ 16000000) : n < sizeLine := by rw [sizeLine_eq]; omega
theorem szle' {n : Nat} (h : n ≤ 16000000) : n ≤ sizeLine := by rw [sizeLine_eq]; omega
theorem lcP_filter {t : α → W Bool} {h : α → W β} {E : EK} (g : α → Option β) : ∀ (xs : List α) (acc : List β) {Q : List β → Prop},
    (∀ x ∈ xs, ∀ (Y : β → Prop) (N : Prop), (∀ y, g x = some y → Y y) → (g x = none → N) → t x (fun b => if b = true then h x Y E else N) E) → Q (acc ++ xs.filterMap g) → lcP t h E xs acc Q
  | [], acc, Q, _, k => by simpa [lcP] using k
  | x :: xs, acc, Q, hh, k => by
    simp only [lcP]
    refine hh x (by simp) _ _ (fun y e => lcP_filter g xs _ (fun y hy => hh y (List.mem_cons_of_mem _ hy)) ?_) (fun e => lcP_filter g xs _ (fun y hy => hh y (List.mem_cons_of_mem _ hy)) ?_)
    · rw [List.filterMap_cons, e] at k; simpa using k
    · rw [List.filterMap_cons, e] at k; simpa using k
theorem lc_filter {t : α → W Bool} {h : α → W β} {xs : List α} {Q : List β → Prop} (g : α → Option β) (hl : xs.length ≤ 16000000) (hh : ∀ x ∈ xs, ∀ (Y : β → Prop) (N : Prop), (∀ y, g x = some y → Y y) → (g x = none → N) → t x (fun b => if b = true then h x Y (fun _ => False) else N) (fun _ => False))
    (k : Q (xs.filterMap g)) : xs.length ≤ sizeLine ∧ lcP t h (fun _ => False) xs [] Q := ⟨szle' hl, lcP_filter g xs [] hh (by simpa using k)⟩
inductive F2 (R : α → β → Prop) : List α → List β → Prop where
  | nil : F2 R [] []
  | cons {x : α} {y : β} {xs : List α} {ys : List β} : R x y → F2 R xs ys → F2 R (x :: xs) (y :: ys)
theorem F2.length {R : α → β → Prop} : ∀ {xs : List α} {ys : List β}, F2 R xs ys → ys.length = xs.length
  | _, _, .nil => rfl
  | _, _, .cons _ t => by rw [List.length_cons, List.length_cons, t.length]
theorem F2.mem {R : α → β → Prop} : ∀ {xs : List α} {ys : List β}, F2 R xs ys → ∀ y ∈ ys, ∃ x ∈ xs, R x y
  | _, _, .nil, y, h => by cases h
  | _, _, .cons (x := x) r t, y, h => by
    rcases List.mem_cons.mp h with rfl | h
    · exact ⟨x, by simp, r⟩
    · obtain ⟨z, hz, q⟩ := t.mem y h; exact ⟨z, List.mem_cons_of_mem _ hz, q⟩
theorem F2.get {R : α → β → Prop} : ∀ {xs : List α} {ys : List β}, F2 R xs ys → ∀ {i : Nat} {y : β}, ys[i]? = some y → ∃ x, xs[i]? = some x ∧ R x y
  | _, _, .nil, i, y, h => by simp at h
  | _, _, .cons (x := x) r t, 0, y, h => by simp at h; subst h; exact ⟨x, rfl, r⟩
  | _, _, .cons r t, i + 1, y, h => by simpa using t.get (i := i) (by simpa using h)
theorem lcP_rel {h : α → W β} {E : EK} (R : α → β → Prop) : ∀ (xs : List α) (acc : List β) {Q : List β → Prop}, (∀ x ∈ xs, ∀ Y : β → Prop, (∀ y, R x y → Y y) → h x Y E) → (∀ ys, F2 R xs ys → Q (acc ++ ys)) → lcP (fun _ Q' _ => Q' true) h E xs acc Q
  | [], acc, Q, _, k => by simpa [lcP] using k [] .nil
  | x :: xs, acc, Q, hh, k => by
    show h x _ E
    refine hh x (by simp) _ fun y r => lcP_rel R xs _ (fun y hy => hh y (List.mem_cons_of_mem _ hy)) fun ys q => ?_
    have := k (y :: ys) (.cons r q)
    simpa using this
theorem lc_rel {h : α → W β} {xs : List α} {Q : List β → Prop} (R : α → β → Prop) (hl : xs.length ≤ 16000000) (hh : ∀ x ∈ xs, ∀ Y : β → Prop, (∀ y, R x y → Y y) → h x Y (fun _ => False)) (k : ∀ ys, F2 R xs ys → Q ys) :
    xs.length ≤ sizeLine ∧ lcP (fun _ Q' _ => Q' true) h (fun _ => False) xs [] Q := ⟨szle' hl, lcP_rel R xs [] hh (by simpa using k)⟩
theorem forP_ind {body : α → σ → (σ → Prop) → (σ → Prop) → Prop} {K : σ → Prop} (I : List α → σ → Prop) (h0 : ∀ s, I [] s → K s) (hs : ∀ x r s, I (x :: r) s → ∀ N : σ → Prop, (∀ s', I r s' → N s') → body x s N K) : ∀ xs s, I xs s → forP body K xs s
  | [], s, h => h0 s h
  | x :: r, s, h => hs x r s h _ fun s' h' => forP_ind I h0 hs r s' h'
theorem forP_all {body : α → Unit → (Unit → Prop) → (Unit → Prop) → Prop} {K : Unit → Prop} (xs : List α) (hs : ∀ x ∈ xs, ∀ N : Unit → Prop, N () → body x () N K) (h0 : K ()) : forP body K xs () := by
  refine forP_ind (fun r _ => ∀ x ∈ r, x ∈ xs) (fun _ _ => h0) (fun x r s h N k => ?_) xs () (fun x h => h)
  exact hs x (h x (by simp)) N (k () fun y hy => h y (List.mem_cons_of_mem _ hy))
theorem atI_int {xs : List α} {r : Int} (h0 : 0 ≤ r) (h1 : r < xs.length) : atI xs r = some (xs[r.toNat]'(by omega)) := by
  obtain ⟨j, rfl⟩ : ∃ j : Nat, r = (j : Int) := ⟨r.toNat, by omega⟩
  exact atI_nat (List.getElem?_eq_getElem (by omega))
theorem enI_length (xs : List α) : (enI xs).length = xs.length := by simp [enI]
theorem rgI_length (lo : Int) (n : Nat) : (rgI lo n).length = n := by simp [rgI]
theorem mem_rgI {lo x : Int} {n : Nat} : x ∈ rgI lo n ↔ lo ≤ x ∧ x < lo + n := by
  unfold rgI
  rw [List.mem_map]
  constructor
  · rintro ⟨a, ha, rfl⟩; rw [List.mem_range] at ha; omega
  · rintro ⟨h1, h2⟩; exact ⟨(x - lo).toNat, by rw [List.mem_range]; omega, by omega⟩
end
theorem in62_of {i : Int} (h : 0 ≤ i) (h2 : i ≤ 1000000000000) : in62 i := by constructor <;> omega
theorem cpow_dec {i j : Int} (h : (decide (0 ≤ j) && decide (j ≤ 1000000) && decide (i.natAbs < 2 ^ 64)) = true) : CPow i j := by
  simp only [Bool.and_eq_true, decide_eq_true_eq] at h
  exact ⟨h.1.1, h.1.2, h.2⟩
theorem rgI_at {lo : Int} {n i : Nat} (h : i < n) : (rgI lo n)[i]? = some (lo + i) := by
  unfold rgI; rw [List.getElem?_map, List.getElem?_range h]; rfl
theorem join1 {σ : Type} {v : σ} {k : σ → Prop} (h : k v) : joinP (fun K => K v) k := h
def parts : List Slip → Int → List Int
  | [], _ => []
  | s :: r, p => min s.2 p :: parts r (p - min s.2 p)
abbrev debtsL (b : List House) : List Int := b.map fun h => sumA h.2
def AmOk (ss : List Slip) : Prop := ∀ s ∈ ss, 1 ≤ s.2 ∧ s.2 ≤ 1000000000
theorem sumA_ge {ss : List Slip} (h : AmOk ss) : 0 ≤ sumA ss := (sumA_nonneg h).1
def slipsTo : List Slip → List Int → Int → Int
  | s :: ss, q :: qs, h => (if s.1 = h then q else 0) + slipsTo ss qs h
  | _, _, _ => 0
abbrev paidTo (ss : List Slip) (p : Int) (h : Int) : Int := slipsTo ss (parts ss p) h
def recvH : List House → List Int → Int → Int
  | x :: b, p :: ps, h => paidTo x.2 p h + recvH b ps h
  | _, _, _ => 0
theorem paidTo_cons (s : Slip) (r : List Slip) (p h : Int) : paidTo (s :: r) p h = (if s.1 = h then min s.2 p else 0) + paidTo r (p - min s.2 p) h := rfl
theorem paidTo_nonneg {ss : List Slip} (ha : AmOk ss) {p : Int} (hp : 0 ≤ p) (h : Int) : 0 ≤ paidTo ss p h := by
  induction ss generalizing p with
  | nil => simp [slipsTo]
  | cons s r ih =>
    have h1 := ha s (by simp)
    have := ih (fun x hx => ha x (List.mem_cons_of_mem _ hx)) (p := p - min s.2 p) (by omega)
    rw [paidTo_cons]; split <;> omega
theorem paidTo_mono {ss : List Slip} (ha : AmOk ss) {p q : Int} (hp : 0 ≤ p) (hq : p ≤ q) (h : Int) : paidTo ss p h ≤ paidTo ss q h := by
  induction ss generalizing p q with
  | nil => simp [slipsTo]
  | cons s r ih =>
    have h1 := ha s (by simp)
    have := ih (fun x hx => ha x (List.mem_cons_of_mem _ hx)) (p := p - min s.2 p) (q := q - min s.2 q) (by omega) (by omega)
    rw [paidTo_cons, paidTo_cons]; split <;> omega
abbrev sumN (n : Nat) (f : Int → Int) : Int := ((rgI 0 n).map f).sum
theorem sumN_succ (n : Nat) (f : Int → Int) : sumN (n + 1) f = sumN n f + f n := by
  unfold sumN rgI
  rw [List.range_succ]; simp
theorem sumN_zero (f : Int → Int) : sumN 0 f = 0 := rfl
theorem sumN_add (f g : Int → Int) : ∀ n, sumN n (fun h => f h + g h) = sumN n f + sumN n g
  | 0 => rfl
  | n + 1 => by rw [sumN_succ, sumN_succ, sumN_succ, sumN_add f g n]; omega
theorem sumN_const0 : ∀ n, sumN n (fun _ => 0) = 0
  | 0 => rfl
  | n + 1 => by rw [sumN_succ, sumN_const0 n]; rfl
theorem sumN_congr {f g : Int → Int} : ∀ {n : Nat}, (∀ h : Int, 0 ≤ h → h < n → f h = g h) → sumN n f = sumN n g
  | 0, _ => rfl
  | n + 1, k => by rw [sumN_succ, sumN_succ, sumN_congr fun h h0 h1 => k h h0 (by omega), k n (by omega) (by omega)]
theorem sumN_one (k v : Int) : ∀ (n : Nat), 0 ≤ k → k < n → sumN n (fun h => if k = h then v else 0) = v
  | 0, h0, h1 => by omega
  | n + 1, h0, h1 => by
    rw [sumN_succ]
    by_cases hk : k = n
    · rw [if_pos hk, sumN_congr (g := fun _ => 0) fun h _ hh => if_neg (by omega), sumN_const0]; omega
    · rw [if_neg hk, sumN_one k v n h0 (by omega)]; omega
theorem sumN_le {f g : Int → Int} : ∀ {n : Nat}, (∀ h : Int, 0 ≤ h → h < n → f h ≤ g h) → sumN n f ≤ sumN n g
  | 0, _ => by rw [sumN_zero, sumN_zero]; exact Int.le_refl _
  | n + 1, k => by
    rw [sumN_succ, sumN_succ]
    have := sumN_le (n := n) fun h h0 h1 => k h h0 (by omega)
    have := k n (by omega) (by omega)
    omega
def nextS : List Slip → Int → Option Slip
  | [], _ => none
  | s :: r, p => if p < s.2 then some (s.1, s.2 - p) else nextS r (p - s.2)
def cntU : List Slip → Int → Nat
  | [], _ => 0
  | s :: r, p => if p < s.2 then r.length + 1 else cntU r (p - s.2)
theorem AmOk.tail {s : Slip} {r : List Slip} (h : AmOk (s :: r)) : AmOk r := fun x hx => h x (List.mem_cons_of_mem _ hx)
theorem nextS_some : ∀ {ss : List Slip} {p : Int} {x : Slip}, AmOk ss → 0 ≤ p → nextS ss p = some x → 1 ≤ x.2 ∧ x.2 ≤ 1000000000 ∧ p + x.2 ≤ sumA ss ∧ ∃ s ∈ ss, s.1 = x.1
  | [], _, _, _, _, h => by simp [nextS] at h
  | s :: r, p, x, ha, hp, h => by
    have h1 := ha s (by simp)
    have hs := sumA_ge ha.tail
    simp only [nextS] at h
    rw [sumA_cons]
    split at h
    · cases h; exact ⟨by simp; omega, by simp; omega, by simp; omega, s, by simp, rfl⟩
    · obtain ⟨a, b, c, z, hz, e⟩ := nextS_some ha.tail (by omega) h
      exact ⟨a, b, by omega, z, List.mem_cons_of_mem _ hz, e⟩
theorem nextS_add : ∀ {ss : List Slip} {p a : Int} {x : Slip}, nextS ss p = some x → 0 ≤ a → a < x.2 → nextS ss (p + a) = some (x.1, x.2 - a)
  | [], _, _, _, h, _, _ => by simp [nextS] at h
  | s :: r, p, a, x, h, h0, h1 => by
    simp only [nextS] at h ⊢
    split at h
    · cases h; simp only at h1; rw [if_pos (by omega)]; congr 2; omega
    · next hc =>
      rw [if_neg (by omega), show p + a - s.2 = p - s.2 + a by omega]
      exact nextS_add h h0 h1
theorem cntU_le : ∀ (ss : List Slip) (p : Int), cntU ss p ≤ ss.length
  | [], _ => by simp [cntU]
  | s :: r, p => by
    simp only [cntU, List.length_cons]
    split
    · omega
    · have := cntU_le r (p - s.2); omega
theorem cntU_mono : ∀ (ss : List Slip) {p q : Int}, p ≤ q → cntU ss q ≤ cntU ss p
  | [], _, _, _ => by simp [cntU]
  | s :: r, p, q, h => by
    simp only [cntU]
    split
    · rw [if_pos (by omega)]; exact Nat.le_refl _
    · split
      · have := cntU_le r (q - s.2); omega
      · exact cntU_mono r (by omega)
theorem cntU_full : ∀ {ss : List Slip} {p : Int} {x : Slip}, nextS ss p = some x → cntU ss (p + x.2) + 1 ≤ cntU ss p
  | [], _, _, h => by simp [nextS] at h
  | s :: r, p, x, h => by
    simp only [nextS] at h
    simp only [cntU]
    split at h
    · next hc =>
      cases h
      simp only
      rw [if_pos hc, if_neg (by omega)]
      have := cntU_le r (p + (s.2 - p) - s.2); omega
    · next hc =>
      rw [if_neg hc]
      by_cases h0 : p + x.2 < s.2
      · exfalso
        have : ∀ {ss : List Slip} {p : Int} {x : Slip}, nextS ss p = some x → 0 < x.2 := by
          intro ss
          induction ss with
          | nil => intro p x h; simp [nextS] at h
          | cons s r ih =>
            intro p x h
            simp only [nextS] at h
            split at h
            · cases h; simp; omega
            · exact ih h
        have := this h
        omega
      · rw [if_neg h0, show p + x.2 - s.2 = p - s.2 + x.2 by omega]
        exact cntU_full h
theorem paidTo_stepS {ss : List Slip} {p a : Int} {x : Slip} (ha : AmOk ss) (hp : 0 ≤ p) (h : nextS ss p = some x) (h0 : 0 ≤ a) (h1 : a ≤ x.2) (k : Int) : paidTo ss (p + a) k = paidTo ss p k + (if x.1 = k then a else 0) := by
  induction ss generalizing p with
  | nil => simp [nextS] at h
  | cons s r ih =>
    have hs := ha s (by simp)
    simp only [nextS] at h
    rw [paidTo_cons, paidTo_cons]
    split at h
    · next hc =>
      cases h
      simp only at h1
      rw [show min s.2 (p + a) = p + a by omega, show min s.2 p = p by omega, Int.sub_self, Int.sub_self]
      simp only
      split <;> omega
    · next hc =>
      rw [show min s.2 (p + a) = s.2 by omega, show min s.2 p = s.2 by omega, show p + a - s.2 = p - s.2 + a by omega, ih ha.tail (by omega) h]
      omega
def gp (ps : List Int) (i : Int) : Int := ps.getD i.toNat 0
def gh (b : List House) (i : Int) : House := b.getD i.toNat (0, [])
def headH (b : List House) (ps : List Int) (i : Int) : Option Slip := nextS (gh b i).2 (gp ps i)
def nx (b : List House) (ps : List Int) (i : Int) : Option Int := (headH b ps i).map (·.1)
def heldI (b : List House) (ps : List Int) (i : Int) : Int := (gh b i).1 + recvH b ps i - gp ps i
theorem gp_nat {ps : List Int} {k : Nat} (h : k < ps.length) : gp ps (k : Int) = ps[k] := by unfold gp; simp [h]
theorem gh_nat {b : List House} {k : Nat} (h : k < b.length) : gh b (k : Int) = b[k] := by unfold gh; simp [h]
structure GoodB (b : List House) : Prop extends OkBook b where
  ns : ∀ i : Int, 0 ≤ i → ∀ s ∈ (gh b i).2, s.1 ≠ i
theorem GoodB.gpile {b : List House} (hb : GoodB b) {i : Int} (h0 : 0 ≤ i) (h1 : i < b.length) : gh b i ∈ b := by
  obtain ⟨k, rfl⟩ : ∃ k : Nat, i = (k : Int) := ⟨i.toNat, by omega⟩
  rw [gh_nat (by omega)]; exact List.getElem_mem _
theorem GoodB.am {b : List House} (hb : GoodB b) (i : Int) : AmOk (gh b i).2 := by
  by_cases h : i.toNat < b.length
  · have : gh b i ∈ b := by unfold gh; simp [h]
    exact (hb.pile _ this).am
  · unfold gh; simp [List.getD, List.getElem?_eq_none_iff.mpr (Nat.le_of_not_lt h)]
    intro s hs; cases hs
theorem GoodB.to_ {b : List House} (hb : GoodB b) (i : Int) : ∀ s ∈ (gh b i).2, 0 ≤ s.1 ∧ s.1 < b.length := by
  by_cases h : i.toNat < b.length
  · have : gh b i ∈ b := by unfold gh; simp [h]
    exact (hb.pile _ this).to
  · unfold gh; simp [List.getD, List.getElem?_eq_none_iff.mpr (Nat.le_of_not_lt h)]
structure PayI (b : List House) (ps : List Int) : Prop where
  len : ps.length = b.length
  ge : ∀ i : Int, 0 ≤ i → i < b.length → 0 ≤ gp ps i ∧ gp ps i ≤ sumA (gh b i).2
theorem PayI.ge0 {b : List House} {ps : List Int} (h : PayI b ps) {i : Int} (h0 : 0 ≤ i) : 0 ≤ gp ps i := by
  by_cases h1 : i < b.length
  · exact (h.ge i h0 h1).1
  · unfold gp
    rw [List.getD_eq_getElem?_getD, List.getElem?_eq_none_iff.mpr (by rw [h.len]; omega)]; exact Int.le_refl _
open Classical
def itr (f : Int → Option Int) : Nat → Int → Option Int
  | 0, i => some i
  | k + 1, i => (f i).bind (itr f k)
def reach (f : Int → Option Int) (i j : Int) : Prop := ∃ k, itr f k i = some j
def onRing (f : Int → Option Int) (i : Int) : Prop := ∃ k, itr f (k + 1) i = some i
theorem itr_add (f : Int → Option Int) : ∀ (a c : Nat) (i : Int), itr f (a + c) i = (itr f a i).bind (itr f c)
  | 0, c, i => by simp [itr]
  | a + 1, c, i => by
    rw [show a + 1 + c = a + c + 1 by omega]
    simp only [itr]
    cases f i with
    | none => rfl
    | some j => simp [itr_add f a c j]
noncomputable def b01 (P : Prop) : Int := if P then 1 else 0
theorem sumN_nonneg {f : Int → Int} {n : Nat} (h : ∀ k : Int, 0 ≤ k → k < n → 0 ≤ f k) : 0 ≤ sumN n f := by
  have := sumN_le (f := fun _ => 0) (g := f) (n := n) h
  rwa [sumN_const0] at this
theorem sumN_const (c : Int) : ∀ n, sumN n (fun _ => c) = n * c
  | 0 => by simp [sumN_zero]
  | n + 1 => by rw [sumN_succ, sumN_const c n, Int.natCast_add, Int.add_mul]; omega
theorem sumN_lt {f g : Int → Int} {n : Nat} {i : Int} (h0 : 0 ≤ i) (h1 : i < n) (h : ∀ k : Int, 0 ≤ k → k < n → f k ≤ g k) (hi : f i < g i) : sumN n f < sumN n g := by
  have a := sumN_le (n := n) (f := fun k => f k + (if i = k then g i - f i else 0)) (g := g) fun k k0 k1 => by
    have := h k k0 k1
    split
    · next e => subst e; omega
    · omega
  rw [sumN_add, sumN_one _ _ _ h0 h1] at a
  omega
noncomputable def size (f : Int → Option Int) (n : Nat) (i : Int) : Int := sumN n fun j => b01 (reach f i j)
theorem sumN_left (f : Int → Int) : ∀ n, sumN (n + 1) f = f 0 + sumN n fun i => f (i + 1)
  | 0 => by rw [sumN_succ, sumN_zero, sumN_zero]; simp
  | n + 1 => by
    rw [sumN_succ, sumN_left f n, sumN_succ]
    have : ((n + 1 : Nat) : Int) = (n : Int) + 1 := by omega
    rw [this]; omega
theorem recvH_eq : ∀ {b : List House} {ps : List Int} (h : Int), ps.length = b.length → recvH b ps h = sumN b.length fun i => paidTo (gh b i).2 (gp ps i) h
  | [], [], h, _ => rfl
  | x :: b, p :: ps, h, hl => by
    rw [List.length_cons, sumN_left]
    simp only [recvH]
    rw [recvH_eq (b := b) (ps := ps) h (by simpa using hl)]
    congr 1
    refine sumN_congr fun i i0 i1 => ?_
    unfold gh gp
    rw [show (i + 1).toNat = i.toNat + 1 by omega, List.getD_cons_succ, List.getD_cons_succ]
  | [], _ :: _, _, hl => by simp at hl
  | _ :: _, [], _, hl => by simp at hl
def unp (b : List House) (ps : List Int) : Int := sumN b.length fun i => (cntU (gh b i).2 (gp ps i) : Int)
end Dl
namespace Dl
open PySem PySem.Spec PyProof.Rows L2
open Classical
def moreL (ps : List Int) (hs : List Int) (a : Int) : List Int := (enI ps).map fun p => p.2 + a * (if p.1 ∈ hs then 1 else 0)
theorem moreL_length (ps hs : List Int) (a : Int) : (moreL ps hs a).length = ps.length := by unfold moreL; rw [List.length_map, enI_length]
theorem moreL_gp {ps hs : List Int} {a k : Int} (h0 : 0 ≤ k) (h1 : k < ps.length) : gp (moreL ps hs a) k = gp ps k + (if k ∈ hs then a else 0) := by
  obtain ⟨j, rfl⟩ : ∃ j : Nat, k = (j : Int) := ⟨k.toNat, by omega⟩
  have hj : j < ps.length := by omega
  rw [gp_nat hj, gp_nat (by rw [moreL_length]; exact hj)]
  have : (moreL ps hs a)[j]? = some (ps[j] + a * (if (j : Int) ∈ hs then 1 else 0)) := by
    unfold moreL enI
    rw [List.getElem?_map, List.getElem?_map, List.getElem?_zipIdx, List.getElem?_eq_getElem hj]; simp
  rw [List.getElem?_eq_getElem (by rw [moreL_length]; exact hj)] at this
  rw [Option.some.inj this]
  split <;> omega
structure Paid (b : List House) (ps qs : List Int) (w : Int → Prop) (a : Int) : Prop where
  len : qs.length = ps.length
  gp : ∀ k : Int, 0 ≤ k → k < b.length → gp qs k = gp ps k + (if w k then a else 0)
theorem paid_more {b : List House} {ps : List Int} (hp : PayI b ps) (hs : List Int) (a : Int) : Paid b ps (moreL ps hs a) (fun k => k ∈ hs) a :=
  ⟨moreL_length _ _ _, fun k h0 h1 => by rw [moreL_gp h0 (by rw [hp.len]; exact h1)]; by_cases h : k ∈ hs <;> simp [h]⟩
section
variable {b : List House} {ps qs : List Int} {w : Int → Prop} {a : Int}
def CanPay (b : List House) (ps : List Int) (w : Int → Prop) (a : Int) : Prop := ∀ k : Int, w k → (0 ≤ k ∧ k < b.length) ∧ ∃ x, headH b ps k = some x ∧ a ≤ x.2
theorem Paid.payI (hb : GoodB b) (hp : PayI b ps) (P : Paid b ps qs w a) (h0 : 0 ≤ a) (hc : CanPay b ps w a) : PayI b qs := by
  refine ⟨P.len.trans hp.len, fun k k0 k1 => ?_⟩
  rw [P.gp k k0 k1]
  have := hp.ge k k0 k1
  split
  · next hw =>
    obtain ⟨_, x, hx, hax⟩ := hc k hw
    have := nextS_some (hb.am k) this.1 hx
    omega
  · omega
theorem Paid.unp (P : Paid b ps qs w a) (h0 : 0 ≤ a) : Dl.unp b qs ≤ Dl.unp b ps := by
  refine sumN_le fun k k0 k1 => ?_
  rw [P.gp k k0 k1]
  have := cntU_mono (gh b k).2 (p := Dl.gp ps k) (q := Dl.gp ps k + (if w k then a else 0)) (by split <;> omega)
  omega
theorem Paid.unp_full (P : Paid b ps qs w a) (h0 : 0 ≤ a) {i : Int} {x : Slip} (i0 : 0 ≤ i) (i1 : i < b.length) (hw : w i) (hx : headH b ps i = some x) (hax : a = x.2) : Dl.unp b qs + 1 ≤ Dl.unp b ps := by
  have : Dl.unp b qs < Dl.unp b ps := by
    refine sumN_lt i0 i1 (fun k k0 k1 => ?_) ?_
    · rw [P.gp k k0 k1]
      have := cntU_mono (gh b k).2 (p := Dl.gp ps k) (q := Dl.gp ps k + (if w k then a else 0)) (by split <;> omega)
      omega
    · rw [P.gp i i0 i1, if_pos hw, hax]
      have := cntU_full hx
      omega
  omega
theorem Paid.recv (hb : GoodB b) (hp : PayI b ps) (P : Paid b ps qs w a) (h0 : 0 ≤ a) (hc : CanPay b ps w a) (h : Int) : recvH b qs h = recvH b ps h + sumN b.length fun k => if w k ∧ nx b ps k = some h then a else 0 := by
  rw [recvH_eq h (P.len.trans hp.len), recvH_eq h hp.len, ← sumN_add]
  refine sumN_congr fun k k0 k1 => ?_
  rw [P.gp k k0 k1]
  by_cases hw : w k
  · obtain ⟨_, x, hx, hax⟩ := hc k hw
    rw [if_pos hw, paidTo_stepS (hb.am k) (hp.ge k k0 k1).1 hx h0 hax]
    have e : nx b ps k = some x.1 := by unfold nx; rw [hx]; rfl
    rw [e]
    by_cases hxh : x.1 = h
    · rw [if_pos hxh, if_pos ⟨hw, by rw [hxh]⟩]
    · rw [if_neg hxh, if_neg (fun z => hxh (Option.some.inj z.2))]
  · rw [if_neg hw, if_neg (fun z => hw z.1), Int.add_zero]; omega
theorem pay_recv {i : Int} (hb : GoodB b) (hp : PayI b ps) (P : Paid b ps qs (fun k => k = i) a) (i0 : 0 ≤ i) (i1 : i < b.length) {x : Slip} (hx : headH b ps i = some x) (h0 : 0 ≤ a) (hax : a ≤ x.2) (h : Int) :
    recvH b qs h = recvH b ps h + (if x.1 = h then a else 0) := by
  rw [P.recv hb hp h0 (fun k e => by subst e; exact ⟨⟨i0, i1⟩, x, hx, hax⟩) h]
  congr 1
  have e : nx b ps i = some x.1 := by unfold nx; rw [hx]; rfl
  rw [sumN_congr (g := fun k => if i = k then (if x.1 = h then a else 0) else 0) fun k _ _ => ?_, sumN_one _ _ _ i0 i1]
  by_cases hk : k = i
  · subst hk
    rw [if_pos rfl, e]
    by_cases hxh : x.1 = h
    · rw [if_pos hxh, if_pos ⟨rfl, by rw [hxh]⟩]
    · rw [if_neg hxh, if_neg (fun z => hxh (Option.some.inj z.2))]
  · rw [if_neg (show ¬ i = k from fun z => hk z.symm), if_neg (fun z => hk z.1)]
theorem head_to (hb : GoodB b) (hp : PayI b ps) {i : Int} (i0 : 0 ≤ i) {x : Slip} (hx : headH b ps i = some x) : 0 ≤ x.1 ∧ x.1 < b.length ∧ x.1 ≠ i ∧ 1 ≤ x.2 ∧ x.2 ≤ 1000000000 := by
  obtain ⟨h1, h1', _, s, hs, e⟩ := nextS_some (hb.am i) (hp.ge0 i0) hx
  have := hb.to_ i s hs
  have := hb.ns i i0 s hs
  rw [← e]
  exact ⟨by omega, by omega, this, h1, h1'⟩
end
end Dl
namespace Dl
open PySem PySem.Spec PyProof.Rows L2
def ringGo (f : Int → Option Int) (i : Int) : Nat → List Int → Option (List Int)
  | 0, _ => none
  | k + 1, way => match way.getLast?.bind f with
    | none => none
    | some j => if j = i then some way else ringGo f i k (way ++ [j])
def minOf : List Int → Int
  | [] => 0
  | x :: r => r.foldl min x
theorem foldl_min_le : ∀ (r : List Int) (x : Int), r.foldl min x ≤ x ∧ ∀ y ∈ r, r.foldl min x ≤ y
  | [], x => ⟨Int.le_refl _, by simp⟩
  | a :: r, x => by
    obtain ⟨h1, h2⟩ := foldl_min_le r (min x a)
    refine ⟨by simp only [List.foldl_cons]; omega, fun y hy => ?_⟩
    simp only [List.foldl_cons]
    rcases List.mem_cons.mp hy with rfl | hy
    · omega
    · exact h2 y hy
theorem foldl_min_mem : ∀ (r : List Int) (x : Int), r.foldl min x = x ∨ r.foldl min x ∈ r
  | [], x => .inl rfl
  | a :: r, x => by
    simp only [List.foldl_cons]
    rcases foldl_min_mem r (min x a) with h | h
    · by_cases hx : x ≤ a
      · left; rw [h]; omega
      · right; rw [h, show min x a = a by omega]; simp
    · right; exact List.mem_cons_of_mem _ h
theorem minOf_mem {w : List Int} (h : w ≠ []) : minOf w ∈ w := by
  cases w with
  | nil => exact (h rfl).elim
  | cons x r => rcases foldl_min_mem r x with e | e <;> simp [minOf, e]
theorem minOf_le {w : List Int} : ∀ y ∈ w, minOf w ≤ y := by
  cases w with
  | nil => simp
  | cons x r =>
    intro y hy
    have := foldl_min_le r x
    rcases List.mem_cons.mp hy with rfl | hy
    · exact this.1
    · exact this.2 y hy
theorem minOf_eq {w : List Int} {m : Int} (h1 : m ∈ w) (h2 : ∀ y ∈ w, m ≤ y) : m = minOf w := by
  have a := minOf_le m h1
  have c := h2 _ (minOf_mem (fun z => by rw [z] at h1; cases h1))
  omega
def rotMin (w : List Int) : List Int := w.drop (w.idxOf (minOf w)) ++ w.take (w.idxOf (minOf w))
theorem rotMin_mem {w : List Int} {x : Int} : x ∈ rotMin w ↔ x ∈ w := by
  unfold rotMin
  rw [List.mem_append, Or.comm, ← List.mem_append, List.take_append_drop]
theorem rotMin_length (w : List Int) : (rotMin w).length = w.length := by
  unfold rotMin; rw [List.length_append, List.length_drop, List.length_take]; omega
def ringL (f : Int → Option Int) (n : Nat) (i : Int) : Option (List Int) := (ringGo f i n [i]).map rotMin
structure Along (f : Int → Option Int) (i : Int) (way : List Int) : Prop where
  ne : way ≠ []
  at_ : ∀ t : Nat, t < way.length → itr f t i = way[t]?
theorem itr_succ (f : Int → Option Int) (k : Nat) (i : Int) : itr f (k + 1) i = (itr f k i).bind f := by
  rw [itr_add f k 1 i]
  congr 1
  funext j
  simp only [itr]
  cases f j <;> rfl
theorem along_one (f : Int → Option Int) (i : Int) : Along f i [i] := ⟨by simp, fun t ht => by
  have : t = 0 := by simp at ht; omega
  subst this; rfl⟩
theorem Along.last {f : Int → Option Int} {i : Int} {way : List Int} (h : Along f i way) : itr f way.length i = way.getLast?.bind f := by
  have hl : 0 < way.length := List.length_pos_iff.mpr h.ne
  have e : way.length = way.length - 1 + 1 := by omega
  rw [e, itr_succ, h.at_ _ (by omega), ← List.getLast?_eq_getElem?]
theorem Along.snoc {f : Int → Option Int} {i j : Int} {way : List Int} (h : Along f i way) (hj : way.getLast?.bind f = some j) : Along f i (way ++ [j]) := ⟨by simp, fun t ht => by
  by_cases hlt : t < way.length
  · rw [List.getElem?_append_left hlt]; exact h.at_ t hlt
  · have e : t = way.length := by simp at ht; omega
    subst e
    rw [h.last, hj]; simp⟩
theorem ringGo_some {f : Int → Option Int} {i : Int} : ∀ {k : Nat} {way w : List Int}, Along f i way → ringGo f i k way = some w → Along f i w ∧ w.getLast?.bind f = some i
  | 0, _, _, _, h => by simp [ringGo] at h
  | k + 1, way, w, ha, h => by
    simp only [ringGo] at h
    split at h
    · cases h
    · next j hj =>
      split at h
      · next hij => cases h; subst hij; exact ⟨ha, hj⟩
      · exact ringGo_some (ha.snoc hj) h
theorem itr_none {f : Int → Option Int} {i : Int} {k : Nat} (h : itr f k i = none) (m : Nat) : itr f (k + m) i = none := by rw [itr_add, h]; rfl
theorem itr_period {f : Int → Option Int} {i : Int} {m : Nat} (h : itr f m i = some i) : ∀ q, itr f (q * m) i = some i
  | 0 => by simp [itr]
  | q + 1 => by rw [Nat.succ_mul, itr_add, itr_period h q]; exact h
theorem ringGo_none {f : Int → Option Int} {i : Int} : ∀ {k : Nat} {way : List Int}, Along f i way → (∀ t, 1 ≤ t → t < way.length → itr f t i ≠ some i) → ringGo f i k way = none → (∃ t, itr f t i = none) ∨ ∀ t, 1 ≤ t → t < way.length + k → itr f t i ≠ some i
  | 0, way, ha, hn, h => .inr fun t h1 h2 => hn t h1 (by omega)
  | k + 1, way, ha, hn, h => by
    simp only [ringGo] at h
    split at h
    · next e => exact .inl ⟨way.length, by rw [ha.last, e]⟩
    · next j hj =>
      split at h
      · cases h
      · next hij =>
        rcases ringGo_none (ha.snoc hj) (fun t h1 h2 => by
          by_cases hlt : t < way.length
          · exact hn t h1 hlt
          · have e : t = way.length := by simp at h2; omega
            subst e
            rw [ha.last, hj]; exact fun z => hij (Option.some.inj z)) h with q | q
        · exact .inl q
        · exact .inr fun t h1 h2 => q t h1 (by simp; omega)
theorem nodup_le {n : Nat} : ∀ {xs : List Int}, xs.Nodup → (∀ x ∈ xs, 0 ≤ x ∧ x < n) → xs.length ≤ n := by
  intro xs hd hr
  have key : ∀ {xs : List Int}, xs.Nodup → (∀ x ∈ xs, 0 ≤ x ∧ x < n) → sumN n (fun h => if h ∈ xs then 1 else 0) = xs.length := by
    intro xs
    induction xs with
    | nil => intro _ _; simp; exact sumN_const0 n
    | cons x r ih =>
      intro hd hr
      have hd' := List.nodup_cons.mp hd
      have h0 := hr x (by simp)
      have e : sumN n (fun h => if h ∈ x :: r then 1 else 0) = sumN n (fun h => (if x = h then 1 else 0) + (if h ∈ r then 1 else 0)) := sumN_congr fun h _ _ => by
        by_cases hx : x = h
        · subst hx; simp [hd'.1]
        · have : ¬ h = x := fun z => hx z.symm
          simp [this, hx]
      rw [e, sumN_add, sumN_one _ _ _ h0.1 h0.2, ih hd'.2 fun y hy => hr y (List.mem_cons_of_mem _ hy), List.length_cons]
      omega
  have a := key hd hr
  have c := sumN_le (n := n) (f := fun h => if h ∈ xs then 1 else 0) (g := fun _ => 1) fun h _ _ => by split <;> omega
  rw [sumN_const, a] at c
  omega
theorem least_nat {P : Nat → Prop} (h : ∃ n, P n) : ∃ n, P n ∧ ∀ m, m < n → ¬ P m := by
  obtain ⟨n, hn⟩ := h
  induction n using Nat.strongRecOn with
  | ind n ih =>
    by_cases hm : ∃ m, m < n ∧ P m
    · obtain ⟨m, h1, h2⟩ := hm; exact ih m h1 h2
    · exact ⟨n, hn, fun m h1 h2 => hm ⟨m, h1, h2⟩⟩
theorem ring_period {f : Int → Option Int} {n : Nat} (hf : ∀ i j : Int, 0 ≤ i → i < n → f i = some j → 0 ≤ j ∧ j < n) {i : Int} (i0 : 0 ≤ i) (i1 : i < n) (h : onRing f i) : ∃ t, 1 ≤ t ∧ t ≤ n ∧ itr f t i = some i := by
  obtain ⟨k, hk⟩ := h
  obtain ⟨m, ⟨hm1, hm⟩, hmin⟩ := least_nat (P := fun t => 1 ≤ t ∧ itr f t i = some i) ⟨k + 1, by omega, hk⟩
  refine ⟨m, hm1, ?_, hm⟩
  have dfd : ∀ t, t ≤ m → ∃ x, itr f t i = some x := fun t ht => by
    cases e : itr f t i with
    | some x => exact ⟨x, rfl⟩
    | none =>
      have := itr_none e (m - t)
      rw [show t + (m - t) = m by omega, hm] at this; cases this
  have rng : ∀ t, ∀ x, itr f t i = some x → 0 ≤ x ∧ x < n := by
    intro t
    induction t with
    | zero => intro x hx; cases hx; exact ⟨i0, i1⟩
    | succ t ih =>
      intro x hx
      rw [itr_succ] at hx
      cases e : itr f t i with
      | none => rw [e] at hx; cases hx
      | some y => rw [e] at hx; exact hf y x (ih y e).1 (ih y e).2 hx
  let xs := (List.range m).map fun t => (itr f t i).getD 0
  have hnd : xs.Nodup := by
    refine List.nodup_iff_pairwise_ne.mpr ?_
    refine List.pairwise_map.mpr (List.Pairwise.imp_of_mem ?_ List.pairwise_lt_range)
    intro a c ha hc hac e
    rw [List.mem_range] at ha hc
    obtain ⟨x, hx⟩ := dfd a (by omega)
    obtain ⟨y, hy⟩ := dfd c (by omega)
    rw [hx, hy] at e
    simp at e
    subst e
    have h1 : itr f (c + (m - c)) i = some i := by rw [show c + (m - c) = m by omega]; exact hm
    rw [itr_add, hy] at h1
    have h2 : itr f (a + (m - c)) i = some i := by rw [itr_add, hx]; exact h1
    exact hmin (a + (m - c)) (by omega) ⟨by omega, h2⟩
  have := nodup_le hnd (n := n) fun x hx => by
    obtain ⟨t, ht, rfl⟩ := List.mem_map.mp hx
    rw [List.mem_range] at ht
    obtain ⟨y, hy⟩ := dfd t (by omega)
    rw [hy]; exact rng t y hy
  simpa [xs] using this
theorem ringL_none {f : Int → Option Int} {n : Nat} (hf : ∀ i j : Int, 0 ≤ i → i < n → f i = some j → 0 ≤ j ∧ j < n) {i : Int} (i0 : 0 ≤ i) (i1 : i < n) (h : ringL f n i = none) : ¬ onRing f i := fun hr => by
  have h' : ringGo f i n [i] = none := by
    unfold ringL at h
    cases e : ringGo f i n [i] with
    | none => rfl
    | some w => rw [e] at h; cases h
  obtain ⟨t, t1, t2, ht⟩ := ring_period hf i0 i1 hr
  rcases ringGo_none (along_one f i) (fun t h1 h2 => by simp at h2; omega) h' with ⟨k, hk⟩ | q
  · have := itr_none hk (k * t - k)
    have hge : k ≤ k * t := Nat.le_mul_of_pos_right k (by omega)
    rw [show k + (k * t - k) = k * t by omega, itr_period ht k] at this
    cases this
  · exact q t t1 (by simp; omega) ht
theorem ringL_some {f : Int → Option Int} {n : Nat} {i : Int} {w : List Int} (h : ringL f n i = some w) : i ∈ w ∧ (∀ x ∈ w, (f x).isSome = true) ∧ ∃ v, Along f i v ∧ v.getLast?.bind f = some i ∧ w = rotMin v := by
  unfold ringL at h
  cases e : ringGo f i n [i] with
  | none => rw [e] at h; cases h
  | some v =>
    rw [e] at h
    cases h
    obtain ⟨ha, hl⟩ := ringGo_some (along_one f i) e
    have hpos : 0 < v.length := List.length_pos_iff.mpr ha.ne
    refine ⟨rotMin_mem.mpr ?_, fun x hx => ?_, v, ha, hl, rfl⟩
    · have := ha.at_ 0 hpos
      exact List.mem_of_getElem? this.symm
    · rw [rotMin_mem] at hx
      obtain ⟨t, ht⟩ := List.getElem?_of_mem hx
      have htl := (List.getElem?_eq_some_iff.mp ht).1
      have h1 := ha.at_ t htl
      rw [ht] at h1
      have h2 := itr_succ f t i
      rw [h1] at h2
      simp only [Option.bind_some] at h2
      by_cases hlast : t + 1 < v.length
      · rw [← h2, ha.at_ _ hlast, List.getElem?_eq_getElem hlast]; rfl
      · have e2 : t + 1 = v.length := by omega
        rw [e2, ha.last, hl] at h2
        rw [← h2]; rfl
structure IsRing (f : Int → Option Int) (w : List Int) : Prop where
  ne : w ≠ []
  nd : w.Nodup
  go : ∀ t : Nat, t < w.length → ∃ x, w[t]? = some x ∧ f x = w[(t + 1) % w.length]?
theorem nd_inj {w : List Int} (h : w.Nodup) {s t : Nat} (hs : s < w.length) (ht : t < w.length) (e : w[s] = w[t]) : s = t := by
  have hp := List.pairwise_iff_getElem.mp (List.nodup_iff_pairwise_ne.mp h)
  rcases Nat.lt_trichotomy s t with c | c | c
  · exact (hp s t hs ht c e).elim
  · exact c
  · exact (hp t s ht hs c e.symm).elim
section
variable {f : Int → Option Int} {w v : List Int} {i : Int}
theorem IsRing.pos (h : IsRing f w) : 0 < w.length := List.length_pos_iff.mpr h.ne
theorem IsRing.succ (h : IsRing f w) {x : Int} (hx : x ∈ w) : ∃ y ∈ w, f x = some y := by
  obtain ⟨t, ht, e⟩ := List.getElem_of_mem hx
  obtain ⟨z, hz, k⟩ := h.go t ht
  rw [List.getElem?_eq_getElem ht, e] at hz; cases hz
  have hm : (t + 1) % w.length < w.length := Nat.mod_lt _ h.pos
  rw [List.getElem?_eq_getElem hm] at k
  exact ⟨_, List.getElem_mem hm, k⟩
theorem IsRing.pred (h : IsRing f w) {y : Int} (hy : y ∈ w) : ∃ x ∈ w, f x = some y := by
  obtain ⟨t, ht, e⟩ := List.getElem_of_mem hy
  have hp := h.pos
  have hs : (t + w.length - 1) % w.length < w.length := Nat.mod_lt _ hp
  obtain ⟨x, hx, k⟩ := h.go _ hs
  refine ⟨x, List.mem_of_getElem? hx, ?_⟩
  rw [k, Nat.mod_add_mod, show t + w.length - 1 + 1 = t + w.length by omega, Nat.add_mod_right, Nat.mod_eq_of_lt ht, List.getElem?_eq_getElem ht, e]
theorem IsRing.inj (h : IsRing f w) {x x' y : Int} (hx : x ∈ w) (hx' : x' ∈ w) (e : f x = some y) (e' : f x' = some y) : x = x' := by
  obtain ⟨t, ht, q⟩ := List.getElem_of_mem hx
  obtain ⟨s, hs, q'⟩ := List.getElem_of_mem hx'
  obtain ⟨z, hz, k⟩ := h.go t ht
  obtain ⟨z', hz', k'⟩ := h.go s hs
  rw [List.getElem?_eq_getElem ht, q] at hz; cases hz
  rw [List.getElem?_eq_getElem hs, q'] at hz'; cases hz'
  rw [e] at k; rw [e'] at k'
  have hp := h.pos
  have ht1 : (t + 1) % w.length < w.length := Nat.mod_lt _ hp
  have hs1 : (s + 1) % w.length < w.length := Nat.mod_lt _ hp
  have em : (t + 1) % w.length = (s + 1) % w.length := by
    rw [List.getElem?_eq_getElem ht1] at k
    rw [List.getElem?_eq_getElem hs1] at k'
    have e1 : w[(t + 1) % w.length] = w[(s + 1) % w.length] := by rw [← Option.some.inj k, ← Option.some.inj k']
    exact nd_inj h.nd _ _ e1
  have e2 : t = s := by
    by_cases a : t + 1 < w.length
    · by_cases c : s + 1 < w.length
      · rw [Nat.mod_eq_of_lt a, Nat.mod_eq_of_lt c] at em; omega
      · rw [show s + 1 = w.length by omega, Nat.mod_self, Nat.mod_eq_of_lt a] at em; omega
    · by_cases c : s + 1 < w.length
      · rw [show t + 1 = w.length by omega, Nat.mod_self, Nat.mod_eq_of_lt c] at em; omega
      · omega
  subst e2
  rw [← q, ← q']
theorem IsRing.itr_ (h : IsRing f w) {t : Nat} (ht : t < w.length) : ∀ k, itr f k w[t] = w[(t + k) % w.length]?
  | 0 => by rw [Nat.add_zero, Nat.mod_eq_of_lt ht, List.getElem?_eq_getElem ht]; rfl
  | k + 1 => by
    obtain ⟨z, hz, q⟩ := h.go ((t + k) % w.length) (Nat.mod_lt _ h.pos)
    rw [itr_succ, h.itr_ ht k, hz, Option.bind_some, q, Nat.mod_add_mod, Nat.add_assoc]
theorem IsRing.reach_iff (h : IsRing f w) {x y : Int} (hx : x ∈ w) : y ∈ w ↔ reach f x y := by
  obtain ⟨t, ht, rfl⟩ := List.getElem_of_mem hx
  have hp := h.pos
  constructor
  · intro hy
    obtain ⟨s, hs, rfl⟩ := List.getElem_of_mem hy
    refine ⟨s + w.length - t, ?_⟩
    rw [h.itr_ ht, show t + (s + w.length - t) = s + w.length by omega, Nat.add_mod_right, Nat.mod_eq_of_lt hs, List.getElem?_eq_getElem hs]
  · rintro ⟨k, hk⟩
    rw [h.itr_ ht] at hk
    exact List.mem_of_getElem? hk
theorem IsRing.back (h : IsRing f w) {P : Int → Prop} (hP : ∀ x y, x ∈ w → y ∈ w → f x = some y → P y → P x) {y : Int} (hy : y ∈ w) (py : P y) : ∀ x ∈ w, P x := by
  have key : ∀ (k : Nat) x, x ∈ w → itr f k x = some y → P x := by
    intro k
    induction k with
    | zero => intro x _ e; cases e; exact py
    | succ k ih =>
      intro x hx e
      obtain ⟨z, hz, fz⟩ := h.succ hx
      simp only [itr, fz, Option.bind_some] at e
      exact hP x z hx hz fz (ih z hz e)
  intro x hx
  obtain ⟨k, hk⟩ := (h.reach_iff hx).mp hy
  exact key k x hx hk
theorem rot_get (w : List Int) {k : Nat} (hk : k ≤ w.length) {t : Nat} (ht : t < w.length) : (w.drop k ++ w.take k)[t]? = w[(t + k) % w.length]? := by
  by_cases c : t < w.length - k
  · rw [List.getElem?_append_left (by rw [List.length_drop]; exact c), List.getElem?_drop, Nat.mod_eq_of_lt (by omega), Nat.add_comm]
  · rw [List.getElem?_append_right (by rw [List.length_drop]; omega), List.length_drop, List.getElem?_take]
    have e : (t + k) % w.length = t - (w.length - k) := by
      rw [show t + k = (t - (w.length - k)) + w.length by omega, Nat.add_mod_right, Nat.mod_eq_of_lt (by omega)]
    rw [e, if_pos (by omega)]
theorem IsRing.rot (h : IsRing f w) {k : Nat} (hk : k ≤ w.length) : IsRing f (w.drop k ++ w.take k) := by
  have hl : (w.drop k ++ w.take k).length = w.length := by rw [List.length_append, List.length_drop, List.length_take]; omega
  have hp := h.pos
  refine ⟨List.length_pos_iff.mp (by rw [hl]; exact hp), ?_, fun t ht => ?_⟩
  · have hperm : (w.drop k ++ w.take k).Perm w := by
      have := List.perm_append_comm (l₁ := w.drop k) (l₂ := w.take k)
      rw [List.take_append_drop] at this; exact this
    exact hperm.nodup_iff.mpr h.nd
  · rw [hl] at ht ⊢
    obtain ⟨x, hx, e⟩ := h.go ((t + k) % w.length) (Nat.mod_lt _ hp)
    refine ⟨x, by rw [rot_get w hk ht]; exact hx, ?_⟩
    rw [e, rot_get w hk (Nat.mod_lt _ hp), Nat.mod_add_mod, Nat.mod_add_mod]
    congr 1; congr 1; omega
theorem isRing_along (ha : Along f i v) (hl : v.getLast?.bind f = some i) (hd : v.Nodup) : IsRing f v := by
  have hp : 0 < v.length := List.length_pos_iff.mpr ha.ne
  refine ⟨ha.ne, hd, fun t ht => ⟨_, List.getElem?_eq_getElem ht, ?_⟩⟩
  have e := ha.at_ t ht
  rw [List.getElem?_eq_getElem ht] at e
  have e2 := itr_succ f t i
  rw [e] at e2
  simp only [Option.bind_some] at e2
  rw [← e2]
  by_cases c : t + 1 < v.length
  · rw [Nat.mod_eq_of_lt c]; exact ha.at_ _ c
  · have : t + 1 = v.length := by omega
    rw [this, Nat.mod_self, ha.last, hl]
    have := ha.at_ 0 hp
    exact this
theorem along_nodup (ha : Along f i v) {m : Nat} (hm : itr f m i = some i) (hlen : v.length ≤ m) (hmin : ∀ t, 1 ≤ t → t < m → itr f t i ≠ some i) : v.Nodup := by
  refine List.nodup_iff_pairwise_ne.mpr (List.pairwise_iff_getElem.mpr fun a c ha1 hc1 hac e => ?_)
  have h1 := ha.at_ a ha1
  have h2 := ha.at_ c hc1
  rw [List.getElem?_eq_getElem ha1] at h1
  rw [List.getElem?_eq_getElem hc1, ← e] at h2
  have h3 : itr f (c + (m - c)) i = some i := by rw [show c + (m - c) = m by omega]; exact hm
  rw [itr_add, h2] at h3
  exact hmin (a + (m - c)) (by omega) (by omega) (by rw [itr_add, h1]; exact h3)
theorem ringGo_first : ∀ {k : Nat} {way w : List Int}, Along f i way → (∀ t, 1 ≤ t → t < way.length → itr f t i ≠ some i) → ringGo f i k way = some w → ∀ t, 1 ≤ t → t < w.length → itr f t i ≠ some i
  | 0, _, _, _, _, h => by simp [ringGo] at h
  | k + 1, way, w, ha, hn, h => by
    simp only [ringGo] at h
    split at h
    · cases h
    · next j hj =>
      split at h
      · cases h; exact hn
      · next hij =>
        refine ringGo_first (ha.snoc hj) (fun t h1 h2 => ?_) h
        by_cases hlt : t < way.length
        · exact hn t h1 hlt
        · have e : t = way.length := by simp at h2; omega
          subst e
          rw [ha.last, hj]; exact fun z => hij (Option.some.inj z)
structure RingAt (f : Int → Option Int) (i : Int) (w : List Int) : Prop where
  ring : IsRing f w
  mem : i ∈ w
  hd : w[0]? = some (minOf w)
theorem rotMin_hd (h : w ≠ []) : (rotMin w)[0]? = some (minOf (rotMin w)) := by
  have hm := minOf_mem h
  have hl := List.idxOf_lt_length_of_mem hm
  have e : minOf (rotMin w) = minOf w := (minOf_eq (rotMin_mem.mpr hm) fun y hy => minOf_le y (rotMin_mem.mp hy)).symm
  rw [e]
  unfold rotMin
  rw [rot_get w (by omega) (by omega), Nat.zero_add, Nat.mod_eq_of_lt hl, List.getElem?_eq_getElem hl, List.getElem_idxOf hl]
theorem IsRing.rotMin (h : IsRing f w) : IsRing f (Dl.rotMin w) := h.rot (Nat.le_of_lt (List.idxOf_lt_length_of_mem (minOf_mem h.ne)))
theorem ringAt_rotMin (h : IsRing f v) (hi : i ∈ v) : RingAt f i (rotMin v) := ⟨h.rotMin, rotMin_mem.mpr hi, rotMin_hd h.ne⟩
theorem ringL_at {n : Nat} (h : ringL f n i = some w) : RingAt f i w := by
  unfold ringL at h
  cases e : ringGo f i n [i] with
  | none => rw [e] at h; cases h
  | some v =>
    rw [e] at h; cases h
    obtain ⟨ha, hl⟩ := ringGo_some (along_one f i) e
    have hf := ringGo_first (along_one f i) (fun t h1 h2 => by simp at h2; omega) e
    have hp : 0 < v.length := List.length_pos_iff.mpr ha.ne
    have hm : itr f v.length i = some i := by rw [ha.last, hl]
    refine ringAt_rotMin (isRing_along ha hl (along_nodup ha hm (Nat.le_refl _) hf)) ?_
    have := ha.at_ 0 hp
    exact List.mem_of_getElem? this.symm
theorem IsRing.on (h : IsRing f w) : ∀ x ∈ w, onRing f x := fun x hx => by
  obtain ⟨t, ht, rfl⟩ := List.getElem_of_mem hx
  have hp := h.pos
  refine ⟨w.length - 1, ?_⟩
  rw [show w.length - 1 + 1 = w.length by omega, h.itr_ ht, Nat.add_mod_right, Nat.mod_eq_of_lt ht, List.getElem?_eq_getElem ht]
theorem IsRing.same (h : IsRing f w) (h' : IsRing f v) {x : Int} (hw : x ∈ w) (hv : x ∈ v) (y : Int) : y ∈ w ↔ y ∈ v := (h.reach_iff hw).trans (h'.reach_iff hv).symm
theorem RingAt.uniq (h : RingAt f i w) (h' : RingAt f i v) : w = v := by
  have hs := h.ring.same h'.ring h.mem h'.mem
  have em : minOf w = minOf v := minOf_eq ((hs _).mp (minOf_mem h.ring.ne)) fun y hy => minOf_le y ((hs y).mpr hy)
  have hw := h.hd; have hv := h'.hd
  rw [em] at hw
  have pw := h.ring.pos; have pv := h'.ring.pos
  rw [List.getElem?_eq_getElem pw] at hw
  rw [List.getElem?_eq_getElem pv] at hv
  have e0 : w[0] = v[0] := by rw [Option.some.inj hw, Option.some.inj hv]
  have lw : ∀ {a c : List Int} (ra : IsRing f a) (rc : IsRing f c) (pa : 0 < a.length) (pc : 0 < c.length), a[0] = c[0] → a.length ≤ c.length := by
    intro a c ra rc pa pc e
    by_cases hlt : c.length < a.length
    · have h1 := ra.itr_ pa c.length
      have h2 := rc.itr_ pc c.length
      simp only [Nat.zero_add] at h2; rw [e, h2] at h1; simp only [Nat.zero_add] at h1; rw [Nat.mod_self, Nat.mod_eq_of_lt hlt, List.getElem?_eq_getElem pc, List.getElem?_eq_getElem hlt, ← e] at h1
      have := nd_inj ra.nd pa hlt (Option.some.inj h1)
      omega
    · omega
  have hl : w.length = v.length := Nat.le_antisymm (lw h.ring h'.ring pw pv e0) (lw h'.ring h.ring pv pw e0.symm)
  apply List.ext_getElem hl
  intro k k1 k2
  have h1 := h.ring.itr_ pw k
  have h2 := h'.ring.itr_ pv k
  simp only [Nat.zero_add] at h2; rw [e0, h2] at h1; simp only [Nat.zero_add] at h1; rw [Nat.mod_eq_of_lt k1, Nat.mod_eq_of_lt k2, List.getElem?_eq_getElem k1, List.getElem?_eq_getElem k2] at h1
  exact (Option.some.inj h1).symm
theorem ringL_of {n : Nat} (hf : ∀ i j : Int, 0 ≤ i → i < n → f i = some j → 0 ≤ j ∧ j < n) (i0 : 0 ≤ i) (i1 : i < n) (h : RingAt f i w) : ringL f n i = some w := by
  cases e : ringL f n i with
  | none => exact ((ringL_none hf i0 i1 e) (h.ring.on i h.mem)).elim
  | some v => rw [(ringL_at e).uniq h]
structure IsWay (f : Int → Option Int) (i : Int) (w : List Int) : Prop where
  al : Along f i w
  nd : w.Nodup
  stop : ∀ j, w.getLast?.bind f = some j → j ∈ w
theorem IsWay.ring {n : Nat} (hf : ∀ i j : Int, 0 ≤ i → i < n → f i = some j → 0 ≤ j ∧ j < n) (i0 : 0 ≤ i) (i1 : i < n) (h : IsWay f i w) (hl : w.getLast?.bind f = some i) : ringL f n i = some (rotMin w) :=
  ringL_of hf i0 i1 (ringAt_rotMin (isRing_along h.al hl h.nd) (List.mem_of_getElem? (h.al.at_ 0 (List.length_pos_iff.mpr h.al.ne)).symm))
theorem IsWay.reach_iff (h : IsWay f i w) (y : Int) : y ∈ w ↔ reach f i y := by
  constructor
  · intro hy
    obtain ⟨t, ht, rfl⟩ := List.getElem_of_mem hy
    exact ⟨t, by rw [h.al.at_ t ht, List.getElem?_eq_getElem ht]⟩
  · rintro ⟨k, hk⟩
    have key : ∀ k y, itr f k i = some y → y ∈ w := by
      intro k
      induction k with
      | zero => intro y e; cases e; exact List.mem_of_getElem? (h.al.at_ 0 (List.length_pos_iff.mpr h.al.ne)).symm
      | succ k ih =>
        intro y e
        rw [itr_succ] at e
        cases e1 : itr f k i with
        | none => rw [e1] at e; cases e
        | some z =>
          rw [e1, Option.bind_some] at e
          obtain ⟨t, ht, rfl⟩ := List.getElem_of_mem (ih z e1)
          by_cases c : t + 1 < w.length
          · have h1 := h.al.at_ (t + 1) c
            rw [itr_succ, h.al.at_ t ht, List.getElem?_eq_getElem ht, Option.bind_some, e] at h1
            exact List.mem_of_getElem? h1.symm
          · refine h.stop y ?_
            rw [List.getLast?_eq_getElem?, show w.length - 1 = t by omega, List.getElem?_eq_getElem ht, Option.bind_some, e]
    exact key k y hk
end
def OkBookL (b : List House) : Prop := ∀ h ∈ b, h.2.length ≤ 6 ∧ AmOk h.2
theorem OkBook.l {b : List House} (h : OkBook b) : OkBookL b := fun x hx => ⟨(h.pile x hx).len, (h.pile x hx).am⟩
theorem PayOf.mem : ∀ {b : List House} {ps : List Int}, PayOf b ps → OkBookL b → ∀ p ∈ ps, 0 ≤ p ∧ p ≤ 6000000000
  | [], [], _, _, p, hp => by cases hp
  | h :: b, q :: ps, k, ho, p, hp => by
    rcases List.mem_cons.mp hp with rfl | hp
    · have := ho h (by simp)
      have s := sumA_nonneg (ss := h.2) this.2
      have := this.1
      exact ⟨k.1, by have := k.2.1; omega⟩
    · exact PayOf.mem k.2.2 (fun x hx => ho x (List.mem_cons_of_mem _ hx)) p hp
  | [], _ :: _, k, _, _, _ => k.elim
  | _ :: _, [], k, _, _, _ => k.elim
def ToOk (n : Nat) (ss : List Slip) : Prop := ∀ s ∈ ss, 0 ≤ s.1 ∧ s.1 < n
theorem OkBook.to {b : List House} (hb : OkBook b) : ∀ x ∈ b, ToOk b.length x.2 := fun x hx s hs => (hb.pile x hx).to s hs
theorem nx_some {b : List House} {ps : List Int} {i : Int} {x : Slip} (h : headH b ps i = some x) : nx b ps i = some x.1 := by unfold nx; rw [h]; rfl
theorem nx_range {b : List House} (hb : GoodB b) {ps : List Int} (hp : PayI b ps) : ∀ i j : Int, 0 ≤ i → i < b.length → nx b ps i = some j → 0 ≤ j ∧ j < b.length := fun i j i0 _ h => by
  unfold nx at h
  cases hx : headH b ps i with
  | none => rw [hx] at h; cases h
  | some x => rw [hx] at h; cases h; exact ⟨(head_to hb hp i0 hx).1, (head_to hb hp i0 hx).2.1⟩
def restH (b : List House) (ps : List Int) (i : Int) : Int := ((headH b ps i).getD (0, 0)).2
def restL (b : List House) (ps w : List Int) : Int := minOf (w.map (restH b ps))
theorem Along.in {f : Int → Option Int} {n : Nat} (hf : ∀ i j : Int, 0 ≤ i → i < n → f i = some j → 0 ≤ j ∧ j < n) {i : Int} (i0 : 0 ≤ i) (i1 : i < n) {w : List Int} (h : Along f i w) : ∀ x ∈ w, 0 ≤ x ∧ x < n := by
  have key : ∀ k x, itr f k i = some x → 0 ≤ x ∧ x < n := by
    intro k
    induction k with
    | zero => intro x hx; cases hx; exact ⟨i0, i1⟩
    | succ k ih =>
      intro x hx
      rw [itr_succ] at hx
      cases e : itr f k i with
      | none => rw [e] at hx; cases hx
      | some y => rw [e] at hx; exact hf y x (ih y e).1 (ih y e).2 hx
  intro x hx
  obtain ⟨k, hk, e⟩ := List.getElem_of_mem hx
  exact key k x (by rw [h.at_ k hk, List.getElem?_eq_getElem hk, e])
theorem ringGo_len {f : Int → Option Int} {i : Int} : ∀ {k : Nat} {way w : List Int}, ringGo f i k way = some w → w.length ≤ way.length + k
  | 0, _, _, h => by simp [ringGo] at h
  | k + 1, way, w, h => by
    simp only [ringGo] at h
    split at h
    · cases h
    · next j _ =>
      by_cases hj : j = i
      · rw [if_pos hj] at h; cases h; omega
      · rw [if_neg hj] at h
        have := ringGo_len h
        simp at this; omega
theorem ringL_facts {b : List House} (hb : GoodB b) {ps : List Int} (hp : PayI b ps) {i : Int} (i0 : 0 ≤ i) (i1 : i < b.length) {w : List Int} (h : ringL (nx b ps) b.length i = some w) : i ∈ w ∧ w.length ≤ 1000 ∧ ∀ x ∈ w, (0 ≤ x ∧ x < b.length) ∧ (nx b ps x).isSome = true := by
  obtain ⟨h1, h2, v, ha, _, rfl⟩ := ringL_some h
  refine ⟨h1, ?_, fun x hx => ⟨ha.in (nx_range hb hp) i0 i1 x (rotMin_mem.mp hx), h2 x hx⟩⟩
  unfold ringL at h
  cases e : ringGo (nx b ps) i b.length [i] with
  | none => rw [e] at h; cases h
  | some u =>
    rw [e] at h
    have := ringGo_len e
    have hbl := hb.len
    have hu : rotMin u = rotMin v := by simpa using h
    rw [← hu, rotMin_length]; simp at this; omega
theorem restL_le {b : List House} {ps w : List Int} {x : Int} (hx : x ∈ w) : restL b ps w ≤ restH b ps x := minOf_le _ (List.mem_map_of_mem hx)
theorem restL_mem {b : List House} {ps w : List Int} (hn : w ≠ []) : ∃ x ∈ w, restL b ps w = restH b ps x := by
  have := minOf_mem (w := w.map (restH b ps)) (by simpa using hn)
  rw [List.mem_map] at this
  obtain ⟨x, hx, e⟩ := this
  exact ⟨x, hx, e.symm⟩
theorem restH_pos {b : List House} (hb : GoodB b) {ps : List Int} (hp : PayI b ps) {x : Int} (x0 : 0 ≤ x) (h : (nx b ps x).isSome = true) : ∃ s, headH b ps x = some s ∧ restH b ps x = s.2 ∧ 1 ≤ s.2 ∧ s.2 ≤ 1000000000 := by
  unfold nx at h
  cases e : headH b ps x with
  | none => rw [e] at h; cases h
  | some s => exact ⟨s, rfl, by unfold restH; rw [e]; rfl, (head_to hb hp x0 e).2.2.2⟩
theorem debtsL_range {b : List House} (hb : OkBook b) : ∀ x ∈ debtsL b, 0 ≤ x ∧ x ≤ 6000000000 := fun x hx => by
  unfold debtsL at hx
  rw [List.mem_map] at hx
  obtain ⟨h, hh, rfl⟩ := hx
  have p := hb.pile h hh
  have := sumA_nonneg p.am
  have := p.len
  omega
structure HOk (n i s t : Int) (h : House) : Prop where
  p0 : 0 ≤ h.1
  p1 : h.1 ≤ 1000000000000
  len : (h.2.length : Int) ≤ s
  sl : ∀ y ∈ h.2, (0 ≤ y.1 ∧ y.1 < n) ∧ y.1 ≠ i ∧ 1 ≤ y.2 ∧ y.2 ≤ t
def dueI (b : List House) (ps : List Int) (i : Int) : Int := min (sumA (gh b i).2) ((gh b i).1 + recvH b ps i)
theorem PayI.mem {b : List House} (hb : OkBook b) {ps : List Int} (hp : PayI b ps) : ∀ x ∈ ps, 0 ≤ x ∧ x ≤ 6000000000 := fun x hx => by
  obtain ⟨i, hi, e⟩ := List.getElem_of_mem hx
  have hpl := hp.len
  have k := hp.ge i (by omega) (by omega)
  rw [gp_nat hi, e] at k
  have := debtsL_range hb (sumA (gh b i).2) (by
    unfold debtsL
    rw [gh_nat (by omega)]
    exact List.mem_map_of_mem (List.getElem_mem _))
  omega
theorem ne_self {x : Str} {P Q : Prop} (q : Q) : if (!(eqB x x)) = true then P else Q := by rw [if_neg (by simp [eqB])]; exact q
section
variable {b : List House} {ps qs S P L : List Int} {w : List Int} {i a : Int}
def HB (b : List House) (ps : List Int) : Prop := ∀ k : Int, 0 ≤ k → k < b.length → 0 ≤ heldI b ps k
def Setl (b : List House) (S : List Int) : Prop := PayI b S ∧ ∀ k : Int, 0 ≤ k → k < b.length → gp S k = dueI b S k
def Below (b : List House) (p q : List Int) : Prop := ∀ k : Int, 0 ≤ k → k < b.length → gp p k ≤ gp q k
inductive Move (b : List House) (ps : List Int) : (Str × Int × Int) → List Int → Prop where
  | pay {i a : Int} {x : Slip} (i0 : 0 ≤ i) (i1 : i < b.length) (hx : headH b ps i = some x) (a1 : 1 ≤ a) (ah : a ≤ heldI b ps i) (ax : a ≤ x.2) : Move b ps (("pay" : Str), i, a) (moreL ps [i] a)
  | ring {i a o : Int} {w : List Int} (i0 : 0 ≤ i) (i1 : i < b.length) (hw : ringL (nx b ps) b.length i = some w) (a1 : 1 ≤ a) (ar : a ≤ restL b ps w) (ho : o ∈ w) (hh : 1 ≤ heldI b ps o) : Move b ps (("ring" : Str), i, a) (moreL ps w a)
inductive Steps (b : List House) : List Int → List (Str × Int × Int) → List Int → Prop where
  | nil (ps : List Int) : Steps b ps [] ps
  | cons {ps qs rs : List Int} {s : Str × Int × Int} {r : List (Str × Int × Int)} : Move b ps s qs → Steps b qs r rs → Steps b ps (s :: r) rs
theorem Steps.snoc {rs : List Int} {s : Str × Int × Int} {r : List (Str × Int × Int)} (h : Steps b ps r qs) (k : Move b qs s rs) : Steps b ps (r ++ [s]) rs := by
  induction h with
  | nil ps => exact .cons k (.nil _)
  | cons h1 _ ih => exact .cons h1 (ih k)
theorem gp_ext (hp : ps.length = qs.length) (h : ∀ k : Int, 0 ≤ k → k < ps.length → gp ps k = gp qs k) : ps = qs := by
  apply List.ext_getElem hp
  intro k k1 k2
  have := h k (by omega) (by omega)
  rw [gp_nat k1, gp_nat k2] at this; exact this
theorem below_anti (hp : PayI b ps) (hq : PayI b qs) (h1 : Below b ps qs) (h2 : Below b qs ps) : ps = qs :=
  gp_ext (by rw [hp.len, hq.len]) fun k k0 k1 => by
    have := hp.len
    have := h1 k k0 (by omega); have := h2 k k0 (by omega); omega
theorem recv_mono (hb : GoodB b) (hp : PayI b ps) (hq : PayI b qs) (h : Below b ps qs) (k : Int) : recvH b ps k ≤ recvH b qs k := by
  rw [recvH_eq k hp.len, recvH_eq k hq.len]
  exact sumN_le fun j j0 j1 => paidTo_mono (hb.am j) (hp.ge j j0 j1).1 (h j j0 j1) k
theorem paidTo_lt {ss : List Slip} {p q : Int} {x : Slip} (ha : AmOk ss) (hp : 0 ≤ p) (h : nextS ss p = some x) (hq : p < q) : paidTo ss p x.1 < paidTo ss q x.1 := by
  have h1 := nextS_some ha hp h
  have h2 := paidTo_stepS (a := 1) ha hp h (by omega) (by omega) x.1
  rw [if_pos rfl] at h2
  have h3 := paidTo_mono ha (p := p + 1) (q := q) (by omega) (by omega) x.1
  omega
theorem ring_can (hb : GoodB b) (hp : PayI b ps) (i0 : 0 ≤ i) (i1 : i < b.length) (hw : ringL (nx b ps) b.length i = some w) (ar : a ≤ restL b ps w) : CanPay b ps (fun k => k ∈ w) a := fun k hk => by
  obtain ⟨w1, w2, w3⟩ := ringL_facts hb hp i0 i1 hw
  obtain ⟨z, hz, hz2, _, _⟩ := restH_pos hb hp (w3 k hk).1.1 (w3 k hk).2
  have := restL_le (b := b) (ps := ps) hk
  exact ⟨(w3 k hk).1, z, hz, by omega⟩
theorem restL_pos (hb : GoodB b) (hp : PayI b ps) (i0 : 0 ≤ i) (i1 : i < b.length) (hw : ringL (nx b ps) b.length i = some w) : 1 ≤ restL b ps w ∧ restL b ps w ≤ 1000000000 := by
  obtain ⟨w1, w2, w3⟩ := ringL_facts hb hp i0 i1 hw
  obtain ⟨o, ho, e⟩ := restL_mem (b := b) (ps := ps) (List.ne_nil_of_mem w1)
  obtain ⟨z, hz, hz2, h3, h4⟩ := restH_pos hb hp (w3 o ho).1.1 (w3 o ho).2
  omega
theorem ring_recv (hb : GoodB b) (hp : PayI b ps) (i0 : 0 ≤ i) (i1 : i < b.length) (hw : ringL (nx b ps) b.length i = some w) (h0 : 0 ≤ a) (ar : a ≤ restL b ps w) {h : Int} : recvH b (moreL ps w a) h = recvH b ps h + (if h ∈ w then a else 0) := by
  rw [(paid_more hp w a).recv hb hp h0 (ring_can hb hp i0 i1 hw ar) h]
  congr 1
  have R := (ringL_at hw).ring
  obtain ⟨w1, w2, w3⟩ := ringL_facts hb hp i0 i1 hw
  by_cases hh : h ∈ w
  · obtain ⟨k0, hk0, e⟩ := R.pred hh
    rw [if_pos hh, sumN_congr (g := fun k => if k0 = k then a else 0) fun k _ _ => ?_, sumN_one _ _ _ (w3 k0 hk0).1.1 (w3 k0 hk0).1.2]
    by_cases hk : k0 = k
    · subst hk; rw [if_pos ⟨hk0, e⟩, if_pos rfl]
    · rw [if_neg hk, if_neg fun z => hk (R.inj hk0 z.1 e z.2)]
  · rw [if_neg hh, sumN_congr (g := fun _ => 0) fun k _ _ => ?_, sumN_const0]
    rw [if_neg]
    rintro ⟨hk, e⟩
    obtain ⟨y, hy, e'⟩ := R.succ hk
    rw [e] at e'; cases e'; exact hh hy
theorem ring_held (hb : GoodB b) (hp : PayI b ps) (i0 : 0 ≤ i) (i1 : i < b.length) (hw : ringL (nx b ps) b.length i = some w) (h0 : 0 ≤ a) (ar : a ≤ restL b ps w) {k : Int} (k0 : 0 ≤ k) (k1 : k < b.length) : heldI b (moreL ps w a) k = heldI b ps k := by
  unfold heldI
  rw [ring_recv hb hp i0 i1 hw h0 ar, moreL_gp k0 (by rw [hp.len]; exact k1)]
  split <;> omega
theorem ring_payI (hb : GoodB b) (hp : PayI b ps) (i0 : 0 ≤ i) (i1 : i < b.length) (hw : ringL (nx b ps) b.length i = some w) (h0 : 0 ≤ a) (ar : a ≤ restL b ps w) : PayI b (moreL ps w a) :=
  (paid_more hp w a).payI hb hp h0 (ring_can hb hp i0 i1 hw ar)
theorem one_paid (hp : PayI b ps) : Paid b ps (moreL ps [i] a) (fun k => k = i) a := by simpa using paid_more hp [i] a
theorem pay_payI (hb : GoodB b) (hp : PayI b ps) (i0 : 0 ≤ i) (i1 : i < b.length) {x : Slip} (hx : headH b ps i = some x) (h0 : 0 ≤ a) (ax : a ≤ x.2) : PayI b (moreL ps [i] a) :=
  (one_paid hp).payI hb hp h0 fun k hk => by subst hk; exact ⟨⟨i0, i1⟩, x, hx, ax⟩
theorem pay_held (hb : GoodB b) (hp : PayI b ps) (i0 : 0 ≤ i) (i1 : i < b.length) {x : Slip} (hx : headH b ps i = some x) (h0 : 0 ≤ a) (ax : a ≤ x.2) {k : Int} (k0 : 0 ≤ k) (k1 : k < b.length) : heldI b (moreL ps [i] a) k = heldI b ps k + (if x.1 = k then a else 0) - (if k = i then a else 0) := by
  unfold heldI
  rw [pay_recv hb hp (one_paid hp) i0 i1 hx h0 ax, moreL_gp k0 (by rw [hp.len]; exact k1)]
  have : (k ∈ [i]) = (k = i) := by simp
  simp only [this]
  omega
theorem Move.payI (hb : GoodB b) (hp : PayI b ps) {s : Str × Int × Int} (h : Move b ps s qs) : PayI b qs := by
  cases h with
  | pay i0 i1 hx a1 ah ax => exact pay_payI hb hp i0 i1 hx (by omega) ax
  | ring i0 i1 hw a1 ar ho hh => exact ring_payI hb hp i0 i1 hw (by omega) ar
theorem Move.hB (hb : GoodB b) (hp : PayI b ps) (hB : HB b ps) {s : Str × Int × Int} (h : Move b ps s qs) : HB b qs := by
  cases h with
  | pay i0 i1 hx a1 ah ax =>
    intro k k0 k1
    rw [pay_held hb hp i0 i1 hx (by omega) ax k0 k1]
    have := hB k k0 k1
    split <;> split <;> (try subst_vars) <;> omega
  | ring i0 i1 hw a1 ar ho hh =>
    intro k k0 k1
    rw [ring_held hb hp i0 i1 hw (by omega) ar k0 k1]
    exact hB k k0 k1
theorem Setl.le (h : Setl b S) {k : Int} (k0 : 0 ≤ k) (k1 : k < b.length) : gp S k ≤ (gh b k).1 + recvH b S k := by
  have := h.2 k k0 k1; unfold dueI at this; omega
theorem Move.below (hb : GoodB b) (hp : PayI b ps) (hB : HB b ps) (hS : Setl b S) (hle : Below b ps S) {s : Str × Int × Int} (h : Move b ps s qs) : Below b qs S := by
  cases h with
  | @pay i a x i0 i1 hx a1 ah ax =>
    intro k k0 k1
    have h1 := hle k k0 k1
    rw [moreL_gp k0 (by rw [hp.len]; exact k1)]
    by_cases hk : k = i
    · subst hk
      rw [if_pos (by simp)]
      have h2 := hS.2 k k0 k1
      have h3 := recv_mono hb hp hS.1 hle k
      have h4 := nextS_some (hb.am k) (hp.ge k k0 k1).1 hx
      unfold heldI at ah
      unfold dueI at h2
      omega
    · rw [if_neg (by simpa using hk)]; omega
  | @ring i a o w i0 i1 hw a1 ar ho hh =>
    have R := (ringL_at hw).ring
    obtain ⟨w1, w2, w3⟩ := ringL_facts hb hp i0 i1 hw
    have hmin := minOf_mem (w := w.map fun k => gp S k - gp ps k) (by simpa using List.ne_nil_of_mem w1)
    rw [List.mem_map] at hmin
    obtain ⟨k0, hk0, ek0⟩ := hmin
    have hall : ∀ k ∈ w, gp S k0 - gp ps k0 ≤ gp S k - gp ps k := fun k hk => by
      rw [ek0]; exact minOf_le _ (List.mem_map_of_mem hk)
    have d0 : 0 ≤ gp S k0 - gp ps k0 := by have := hle k0 (w3 k0 hk0).1.1 (w3 k0 hk0).1.2; omega
    obtain ⟨d, hd0⟩ : ∃ d, d = gp S k0 - gp ps k0 := ⟨_, rfl⟩
    rw [← hd0] at hall d0
    by_cases hda : a ≤ d
    · intro k kk0 kk1
      have h1 := hle k kk0 kk1
      rw [moreL_gp kk0 (by rw [hp.len]; exact kk1)]
      split
      · next hk => have := hall k hk; omega
      · omega
    · exfalso
      have hp' := ring_payI hb hp i0 i1 hw (a := d) d0 (by omega)
      have hle' : Below b (moreL ps w d) S := fun k kk0 kk1 => by
        have h1 := hle k kk0 kk1
        rw [moreL_gp kk0 (by rw [hp.len]; exact kk1)]
        split
        · next hk => have := hall k hk; omega
        · omega
      have hstk : ∀ y ∈ w, gp S y = gp (moreL ps w d) y → gp S y = (gh b y).1 + recvH b S y := fun y hy e => by
        obtain ⟨⟨y0, y1⟩, y2⟩ := w3 y hy
        obtain ⟨z, hz, hz2, hz3, _⟩ := restH_pos hb hp y0 y2
        have h1 := nextS_some (hb.am y) (hp.ge y y0 y1).1 hz
        have h2 := restL_le (b := b) (ps := ps) hy
        have h3 := hS.2 y y0 y1
        rw [moreL_gp y0 (by rw [hp.len]; exact y1), if_pos hy] at e
        unfold dueI at h3
        omega
      have all := R.back (P := fun k => gp S k = gp (moreL ps w d) k) (fun x y hx hy e py => by
        obtain ⟨⟨x0, x1⟩, x2⟩ := w3 x hx
        obtain ⟨⟨y0, y1⟩, y2⟩ := w3 y hy
        have hs := hstk y hy py
        have hd := ring_held hb hp i0 i1 hw (a := d) d0 (by omega) y0 y1
        have hB' := hB y y0 y1
        have hm := recv_mono hb hp' hS.1 hle' y
        have heq : recvH b S y = recvH b (moreL ps w d) y := by
          unfold heldI at hd hB'; omega
        obtain ⟨z, hz, hz2, hz3, _⟩ := restH_pos hb hp x0 x2
        have hr := restL_le (b := b) (ps := ps) hx
        have ez : z.1 = y := by
          have := nx_some hz
          rw [e] at this; exact (Option.some.inj this).symm
        have hz' : nextS (gh b x).2 (gp (moreL ps w d) x) = some (z.1, z.2 - d) := by
          rw [moreL_gp x0 (by rw [hp.len]; exact x1), if_pos hx]
          exact nextS_add hz d0 (by omega)
        have hxx := hle' x x0 x1
        by_cases hlt : gp (moreL ps w d) x < gp S x
        · exfalso
          have hl := paidTo_lt (hb.am x) (hp'.ge x x0 x1).1 hz' hlt
          rw [recvH_eq y hS.1.len, recvH_eq y hp'.len] at heq
          have := sumN_lt (n := b.length) (f := fun k => paidTo (gh b k).2 (gp (moreL ps w d) k) y) (g := fun k => paidTo (gh b k).2 (gp S k) y) x0 x1 (fun k kk0 kk1 => paidTo_mono (hb.am k) (hp'.ge k kk0 kk1).1 (hle' k kk0 kk1) y) (by show paidTo _ _ y < paidTo _ _ y; rw [← ez]; exact hl)
          omega
        · omega) hk0 (by
          rw [moreL_gp (w3 k0 hk0).1.1 (by rw [hp.len]; exact (w3 k0 hk0).1.2), if_pos hk0]
          have := hall k0 hk0
          have := hle' k0 (w3 k0 hk0).1.1 (w3 k0 hk0).1.2
          rw [moreL_gp (w3 k0 hk0).1.1 (by rw [hp.len]; exact (w3 k0 hk0).1.2), if_pos hk0] at this
          omega)
      have ho1 := all o ho
      have ho2 := hstk o ho ho1
      obtain ⟨⟨o0, o1⟩, _⟩ := w3 o ho
      have hd := ring_held hb hp i0 i1 hw (a := d) d0 (by omega) o0 o1
      have hm := recv_mono hb hp' hS.1 hle' o
      unfold heldI at hd hh
      omega
end
section
variable {b : List House} {ps qs S P L G : List Int} {w : List Int} {i a : Int}
theorem recv_nonneg (hb : GoodB b) (hp : PayI b ps) (k : Int) : 0 ≤ recvH b ps k := by
  rw [recvH_eq k hp.len]
  exact sumN_nonneg fun j j0 j1 => paidTo_nonneg (hb.am j) (hp.ge j j0 j1).1 k
structure LeastS (b : List House) (L : List Int) : Prop where
  set : Setl b L
  le : ∀ S, Setl b S → Below b L S
structure GreatS (b : List House) (G : List Int) : Prop where
  set : Setl b G
  ge : ∀ S, Setl b S → Below b S G
theorem LeastS.uniq (h : LeastS b L) (h' : LeastS b S) : L = S := below_anti h.set.1 h'.set.1 (h.le _ h'.set) (h'.le _ h.set)
theorem GreatS.uniq (h : GreatS b G) (h' : GreatS b S) : G = S := below_anti h.set.1 h'.set.1 (h'.ge _ h.set) (h.ge _ h'.set)
theorem turn_setl (hb : GoodB b) (hS : Setl b S) (i0 : 0 ≤ i) (i1 : i < b.length) (hw : ringL (nx b S) b.length i = some w) (h0 : 0 ≤ a) (ar : a ≤ restL b S w) : Setl b (moreL S w a) := by
  refine ⟨ring_payI hb hS.1 i0 i1 hw h0 ar, fun k k0 k1 => ?_⟩
  have h1 := hS.2 k k0 k1
  unfold dueI at h1 ⊢
  rw [ring_recv hb hS.1 i0 i1 hw h0 ar, moreL_gp k0 (by rw [hS.1.len]; exact k1)]
  by_cases hk : k ∈ w
  · rw [if_pos hk]
    obtain ⟨_, x, hx, hax⟩ := ring_can hb hS.1 i0 i1 hw ar k hk
    have h2 := nextS_some (hb.am k) (hS.1.ge k k0 k1).1 hx
    omega
  · rw [if_neg hk]; omega
end
section
variable {f : Int} {b : List House} {ps qs S L G : List Int} {w : List Int} {i a : Int}
end
section
variable {b : List House} {ps qs S L G : List Int} {w : List Int} {i a : Int}
end
theorem Setl.mem {b : List House} (hb : GoodB b) {S : List Int} (h : Setl b S) : ∀ x ∈ S, 0 ≤ x ∧ x ≤ 6000000000 := h.1.mem hb.toOkBook
theorem F2.imp {α β : Type} {R S : α → β → Prop} : ∀ {xs : List α} {ys : List β}, F2 R xs ys → (∀ x ∈ xs, ∀ y, R x y → S x y) → F2 S xs ys
  | _, _, .nil, _ => .nil
  | _, _, .cons (x := x) r t, h => .cons (h x (by simp) _ r) (t.imp fun z hz => h z (by simp [hz]))
section
variable {b : List House} {ps qs S T P L G : List Int} {w : List Int} {i a : Int}
theorem Setl.free (hS : Setl b S) {k : Int} (k0 : 0 ≤ k) (k1 : k < b.length) (h : 0 < heldI b S k) : gp S k = sumA (gh b k).2 := by
  have h1 := hS.2 k k0 k1
  unfold dueI at h1; unfold heldI at h; omega
def ringsL (b : List House) (ps : List Int) : List (List Int) := (rgI 0 b.length).filterMap fun i => (ringL (nx b ps) b.length i).bind fun w => if w.head? = some i then some w else none
theorem mem_ringsL : w ∈ ringsL b ps ↔ ∃ i, (0 ≤ i ∧ i < (b.length : Int)) ∧ ringL (nx b ps) b.length i = some w ∧ w.head? = some i := by
  unfold ringsL
  rw [List.mem_filterMap]
  constructor
  · rintro ⟨i, hi, h⟩
    refine ⟨i, by have := mem_rgI.mp hi; omega, ?_⟩
    cases e : ringL (nx b ps) b.length i with
    | none => rw [e] at h; cases h
    | some v =>
      rw [e, Option.bind_some] at h
      split at h
      · next hh => cases h; exact ⟨rfl, hh⟩
      · cases h
  · rintro ⟨i, hi, e, hh⟩
    exact ⟨i, mem_rgI.mpr (by omega), by rw [e, Option.bind_some, if_pos hh]⟩
end
section
variable {b : List House} {ps qs rs S T P L G : List Int} {w v : List Int} {i j a : Int}
theorem isRing_congr {f g : Int → Option Int} (h : IsRing f w) (e : ∀ x ∈ w, g x = f x) : IsRing g w := ⟨h.ne, h.nd, fun t ht => by
  obtain ⟨x, hx, hf⟩ := h.go t ht
  exact ⟨x, hx, by rw [e x (List.mem_of_getElem? hx)]; exact hf⟩⟩
theorem rgI_pair (lo : Int) (n : Nat) : (rgI lo n).Pairwise (· < ·) := by
  unfold rgI
  refine List.pairwise_map.mpr (List.pairwise_lt_range.imp fun {a b} h => by omega)
end
section
variable {b : List House} {ps qs rs S T P L G : List Int} {w v : List Int} {i j a : Int}
end
section
variable {n : Nat} {w : List Int} {o0 : Int} {s : List (List Slip)}
def OnR (n : Nat) (w : List Int) (s : List (List Slip)) (t : Nat) : Prop := ∃ (h : Nat) (y a : Int), w[t]? = some (h : Int) ∧ h < n ∧ 1 ≤ a ∧ a ≤ 1000000000 ∧ w[(t + 1) % w.length]? = some y ∧ s[h]? = some [(y, a)]
structure K1 (n : Nat) (w : List Int) (k : Nat) (s : List (List Slip)) : Prop where
  len : s.length = n
  on : ∀ t : Nat, t < k → OnR n w s t
  off : ∀ h : Nat, h < n → (∀ t : Nat, t < k → w[t]? ≠ some (h : Int)) → s[h]? = some []
structure OneR (n : Nat) (w : List Int) (o0 : Int) (s : List (List Slip)) : Prop where
  len : s.length = n
  on : ∀ t : Nat, t < w.length → OnR n w s t
  off : ∀ h : Nat, h < n → (h : Int) ∉ w → s[h]? = some [] ∨ s[h]? = some [(o0, 1)]
theorem K1.zero : K1 n w 0 (List.replicate n []) := ⟨List.length_replicate, fun t h => by omega, fun h hn _ => by rw [List.getElem?_replicate, if_pos hn]⟩
theorem K1.step (S : K1 n w k s) (hd : w.Nodup) {h : Nat} {y a : Int} (hk : w[k]? = some (h : Int)) (hn : h < n) (hy : w[(k + 1) % w.length]? = some y) (a0 : 1 ≤ a) (a1 : a ≤ 1000000000) : K1 n w (k + 1) (s.set h [(y, a)]) := by
  have hkl : k < w.length := (List.getElem?_eq_some_iff.mp hk).1
  refine ⟨by rw [List.length_set, S.len], fun t ht => ?_, fun h' hn' hno => ?_⟩
  · by_cases e : t = k
    · subst e
      exact ⟨h, y, a, hk, hn, a0, a1, hy, List.getElem?_set_self (by rw [S.len]; exact hn)⟩
    · obtain ⟨h', y', a', e1, e2, e3, e4, e5, e6⟩ := S.on t (by omega)
      refine ⟨h', y', a', e1, e2, e3, e4, e5, ?_⟩
      rw [List.getElem?_set_ne (fun z => ?_)]
      · exact e6
      · subst z
        have htl : t < w.length := (List.getElem?_eq_some_iff.mp e1).1
        rw [List.getElem?_eq_getElem htl] at e1
        rw [List.getElem?_eq_getElem hkl] at hk
        exact e (nd_inj hd htl hkl (Option.some.inj (e1.trans hk.symm)))
  · rw [List.getElem?_set_ne (fun z => hno k (by omega) (by rw [hk, z]))]
    exact S.off h' hn' fun t ht => hno t (by omega)
theorem K1.done (S : K1 n w w.length s) : OneR n w o0 s := ⟨S.len, S.on, fun h hn hw => .inl (S.off h hn fun t _ e => hw (List.mem_of_getElem? e))⟩
theorem OneR.step (S : OneR n w o0 s) {h : Nat} (hn : h < n) (hw : (h : Int) ∉ w) {p : List Slip} (hp : p = [] ∨ p = [(o0, 1)]) : OneR n w o0 (s.set h p) := by
  refine ⟨by rw [List.length_set, S.len], fun t ht => ?_, fun h' hn' hw' => ?_⟩
  · obtain ⟨h', y', a', e1, e2, e3, e4, e5, e6⟩ := S.on t ht
    refine ⟨h', y', a', e1, e2, e3, e4, e5, ?_⟩
    rw [List.getElem?_set_ne (fun z => hw (by rw [z]; exact List.mem_of_getElem? e1))]
    exact e6
  · by_cases e : h = h'
    · subst e
      rw [List.getElem?_set_self (by rw [S.len]; exact hn)]
      rcases hp with z | z <;> rw [z]
      · exact .inl rfl
      · exact .inr rfl
    · rw [List.getElem?_set_ne e]; exact S.off h' hn' hw'
theorem OneR.pile (S : OneR n w o0 s) (hd : w.Nodup) (h2 : 2 ≤ w.length) (ho : o0 ∈ w) {h : Nat} (hn : h < n) : ∃ p, s[h]? = some p ∧ (p = [] ∧ (h : Int) ∉ w ∨ ∃ y a, p = [(y, a)] ∧ y ∈ w ∧ 1 ≤ a ∧ a ≤ 1000000000 ∧ y ≠ (h : Int)) := by
  by_cases hw : (h : Int) ∈ w
  · obtain ⟨t, ht, e⟩ := List.getElem_of_mem hw
    obtain ⟨h', y, a, e1, e2, e3, e4, e5, e6⟩ := S.on t ht
    rw [List.getElem?_eq_getElem ht, e] at e1
    have : h = h' := by have := Option.some.inj e1; omega
    subst this
    refine ⟨_, e6, .inr ⟨y, a, rfl, List.mem_of_getElem? e5, e3, e4, fun z => ?_⟩⟩
    have hm : (t + 1) % w.length < w.length := Nat.mod_lt _ (by omega)
    rw [List.getElem?_eq_getElem hm] at e5
    have := nd_inj hd hm ht (by rw [Option.some.inj e5, e]; exact z)
    by_cases hc : t + 1 < w.length
    · rw [Nat.mod_eq_of_lt hc] at this; omega
    · have e7 : t + 1 = w.length := by omega
      rw [e7, Nat.mod_self] at this; omega
  · rcases S.off h hn hw with e | e
    · exact ⟨_, e, .inl ⟨rfl, hw⟩⟩
    · exact ⟨_, e, .inr ⟨o0, 1, rfl, ho, by omega, by omega, fun z => hw (by rw [← z]; exact ho)⟩⟩
end
section
variable {b c : List House} {ps qs S T P L G Q : List Int} {k : Int}
def dueL (b : List House) (Q : List Int) : List Int := (rgI 0 b.length).map (dueI b Q)
theorem dueL_gp (k0 : 0 ≤ k) (k1 : k < b.length) : gp (dueL b Q) k = dueI b Q k := by
  obtain ⟨j, rfl⟩ : ∃ j : Nat, k = (j : Int) := ⟨k.toNat, by omega⟩
  have hj : j < b.length := by omega
  have hl : j < (dueL b Q).length := by unfold dueL; rw [List.length_map, rgI_length]; exact hj
  rw [gp_nat hl]
  have e : (dueL b Q)[j]? = some (dueI b Q j) := by
    unfold dueL
    rw [List.getElem?_map, rgI_at hj, Option.map_some, Int.zero_add]
  rw [List.getElem?_eq_getElem hl] at e
  exact Option.some.inj e
theorem sumA_ge0 (hb : GoodB b) (k : Int) : 0 ≤ sumA (gh b k).2 := sumA_ge (hb.am k)
theorem due_range (hb : GoodB b) (hp : PayI b Q) (k0 : 0 ≤ k) (k1 : k < b.length) : 0 ≤ dueI b Q k ∧ dueI b Q k ≤ sumA (gh b k).2 := by
  have h1 := hb.purse _ (hb.gpile k0 k1)
  have h2 := recv_nonneg hb hp k
  have h3 := sumA_ge0 hb k
  unfold dueI; omega
theorem dueL_pay (hb : GoodB b) (hp : PayI b Q) : PayI b (dueL b Q) := ⟨by unfold dueL; rw [List.length_map, rgI_length], fun k k0 k1 => by
  rw [dueL_gp k0 k1]; exact due_range hb hp k0 k1⟩
theorem due_mono (hb : GoodB b) (hp : PayI b P) (hq : PayI b Q) (h : Below b P Q) (k : Int) : dueI b P k ≤ dueI b Q k := by
  have := recv_mono hb hp hq h k
  unfold dueI; omega
theorem sub_setl (hb : GoodB b) : ∀ (m : Nat) (Q : List Int), (sumN b.length (fun k => sumA (gh b k).2 - gp Q k)).toNat ≤ m → PayI b Q → (∀ k : Int, 0 ≤ k → k < b.length → gp Q k ≤ dueI b Q k) → ∃ S, Setl b S ∧ Below b Q S := by
  intro m
  induction m with
  | zero =>
    intro Q hm hp hs
    refine ⟨Q, ⟨hp, fun k k0 k1 => ?_⟩, fun k _ _ => Int.le_refl _⟩
    have h1 := due_range hb hp k0 k1
    have h2 := hs k k0 k1
    by_cases hc : gp Q k < sumA (gh b k).2
    · have := sumN_lt (n := b.length) (f := fun _ => 0) (g := fun k => sumA (gh b k).2 - gp Q k) k0 k1 (fun j j0 j1 => by have := (hp.ge j j0 j1).2; omega) (by show 0 < _ - _; omega)
      rw [sumN_const0] at this; omega
    · omega
  | succ m ih =>
    intro Q hm hp hs
    by_cases hall : ∀ k : Int, 0 ≤ k → k < b.length → gp Q k = dueI b Q k
    · exact ⟨Q, ⟨hp, hall⟩, fun k _ _ => Int.le_refl _⟩
    · have hex : ∃ k : Int, 0 ≤ k ∧ k < b.length ∧ gp Q k < dueI b Q k := by
        refine Classical.byContradiction fun hno => hall fun k k0 k1 => ?_
        have := hs k k0 k1
        by_cases hc : gp Q k < dueI b Q k
        · exact (hno ⟨k, k0, k1, hc⟩).elim
        · omega
      obtain ⟨k, k0, k1, hlt⟩ := hex
      have hd := dueL_pay hb hp
      have hle : Below b Q (dueL b Q) := fun j j0 j1 => by rw [dueL_gp j0 j1]; exact hs j j0 j1
      have h1 := sumN_lt (n := b.length) (f := fun k => sumA (gh b k).2 - gp (dueL b Q) k) (g := fun k => sumA (gh b k).2 - gp Q k) k0 k1 (fun j j0 j1 => by have := hle j j0 j1; omega) (by show _ - gp (dueL b Q) k < _ - gp Q k; rw [dueL_gp k0 k1]; omega)
      have h2 : 0 ≤ sumN b.length (fun k => sumA (gh b k).2 - gp (dueL b Q) k) := sumN_nonneg fun j j0 j1 => by have := (hd.ge j j0 j1).2; omega
      obtain ⟨S, hS, hbS⟩ := ih (dueL b Q) (by omega) hd fun j j0 j1 => by
        rw [dueL_gp j0 j1]; exact due_mono hb hp hd hle j
      exact ⟨S, hS, fun j j0 j1 => Int.le_trans (hle j j0 j1) (hbS j j0 j1)⟩
theorem GreatS.sub (hb : GoodB b) (hG : GreatS b G) (hp : PayI b Q) (h : ∀ k : Int, 0 ≤ k → k < b.length → gp Q k ≤ dueI b Q k) : Below b Q G := by
  obtain ⟨S, hS, hle⟩ := sub_setl hb _ Q (Nat.le_refl _) hp h
  exact fun k k0 k1 => Int.le_trans (hle k k0 k1) (hG.ge S hS k k0 k1)
structure SameB (b c : List House) : Prop where
  len : c.length = b.length
  purse : ∀ k : Int, 0 ≤ k → k < b.length → (gh c k).1 = (gh b k).1
  debt : ∀ k : Int, 0 ≤ k → k < b.length → sumA (gh c k).2 = sumA (gh b k).2
  paid : ∀ j k p : Int, 0 ≤ j → j < b.length → 0 ≤ p → paidTo (gh c j).2 p k = paidTo (gh b j).2 p k
theorem SameB.pay (h : SameB b c) (hp : PayI b P) : PayI c P := ⟨by rw [h.len, hp.len], fun k k0 k1 => by
  rw [h.len] at k1; rw [h.debt k k0 k1]; exact hp.ge k k0 k1⟩
theorem SameB.recv (h : SameB b c) (hp : PayI b P) (k : Int) : recvH c P k = recvH b P k := by
  rw [recvH_eq k (h.pay hp).len, recvH_eq k hp.len, h.len]
  exact sumN_congr fun j j0 j1 => h.paid j k _ j0 j1 (hp.ge j j0 j1).1
theorem SameB.symm (h : SameB b c) : SameB c b := ⟨h.len.symm, fun k k0 k1 => (h.purse k k0 (by rw [← h.len]; exact k1)).symm, fun k k0 k1 => (h.debt k k0 (by rw [← h.len]; exact k1)).symm, fun j k p j0 j1 p0 => (h.paid j k p j0 (by rw [← h.len]; exact j1) p0).symm⟩
theorem SameB.setl (h : SameB b c) (hS : Setl b S) : Setl c S := ⟨h.pay hS.1, fun k k0 k1 => by
  rw [h.len] at k1
  have := hS.2 k k0 k1
  unfold dueI at this ⊢
  rw [h.debt k k0 k1, h.purse k k0 k1, h.recv hS.1]; exact this⟩
theorem SameB.below (h : SameB b c) (hle : Below b P Q) : Below c P Q := fun k k0 k1 => hle k k0 (by rw [← h.len]; exact k1)
theorem SameB.least (h : SameB b c) (hL : LeastS b L) : LeastS c L := ⟨h.setl hL.set, fun S hS => h.below (hL.le S (h.symm.setl hS))⟩
theorem SameB.great (h : SameB b c) (hG : GreatS b G) : GreatS c G := ⟨h.setl hG.set, fun S hS => h.below (hG.ge S (h.symm.setl hS))⟩
end
section
variable {b : List House} {o S T L G : List Int} {j k : Int}
structure Ord (n : Nat) (o : List Int) : Prop where
  len : o.length = n
  nd : o.Nodup
  rg : ∀ x ∈ o, 0 ≤ x ∧ x < (n : Int)
  all : ∀ x : Int, 0 ≤ x → x < n → x ∈ o
theorem Ord.of {n : Nat} (h : o.Perm (rgI 0 n)) : Ord n o := ⟨by have := h.length_eq; rwa [rgI_length] at this, h.nodup_iff.mpr ((rgI_pair _ _).imp fun {a b} z => by omega), fun x hx => by have := mem_rgI.mp (h.mem_iff.mp hx); omega, fun x h0 h1 => h.mem_iff.mpr (mem_rgI.mpr (by omega))⟩
theorem Ord.inj {n : Nat} (h : Ord n o) {i j : Int} (i0 : 0 ≤ i) (i1 : i < n) (j0 : 0 ≤ j) (j1 : j < n) (e : gp o i = gp o j) : i = j := by
  obtain ⟨i, rfl⟩ : ∃ m : Nat, i = (m : Int) := ⟨i.toNat, by omega⟩
  obtain ⟨j, rfl⟩ : ∃ m : Nat, j = (m : Int) := ⟨j.toNat, by omega⟩
  have hi : i < o.length := by rw [h.len]; omega
  have hj : j < o.length := by rw [h.len]; omega
  rw [gp_nat hi, gp_nat hj] at e
  have := nd_inj h.nd hi hj e
  omega
end
section
variable {b c : List House} {S T L G : List Int} {k i : Int}
theorem SameB.refl (b : List House) : SameB b b := ⟨rfl, fun _ _ _ => rfl, fun _ _ _ => rfl, fun _ _ _ _ _ _ => rfl⟩
end
section
variable {b c : List House} {S T L G P : List Int} {k i : Int}
section
variable {n : Nat} {s : Slip}
end
end
section
variable {b : List House} {S T L G : List Int}
end
abbrev TRow := List Int × Int × List Int
section
variable {b : List House} {ps w : List Int} {i : Int}
theorem ringsL_facts (hb : GoodB b) (hp : PayI b ps) (h : w ∈ ringsL b ps) : w ≠ [] ∧ w.length ≤ b.length ∧ (∀ x ∈ w, (0 ≤ x ∧ x < b.length) ∧ (nx b ps x).isSome = true) ∧ PayI b (moreL ps w (restL b ps w)) ∧ unp b (moreL ps w (restL b ps w)) + 1 ≤ unp b ps ∧ 1 ≤ restL b ps w ∧ restL b ps w ≤ 1000000000 := by
  obtain ⟨i, ⟨i0, i1⟩, e, _⟩ := mem_ringsL.mp h
  obtain ⟨w1, w2, w3⟩ := ringL_facts hb hp i0 i1 e
  have hpos := restL_pos hb hp i0 i1 e
  obtain ⟨o, ho, hoe⟩ := restL_mem (b := b) (ps := ps) (List.ne_nil_of_mem w1)
  obtain ⟨y, hy, hy2, hy3, hy4⟩ := restH_pos hb hp (w3 o ho).1.1 (w3 o ho).2
  refine ⟨List.ne_nil_of_mem w1, nodup_le (ringL_at e).ring.nd fun x hx => (w3 x hx).1, w3, ring_payI hb hp i0 i1 e (by omega) (Int.le_refl _), (paid_more hp w _).unp_full (by omega) (w3 o ho).1.1 (w3 o ho).1.2 ho hy (by omega), hpos⟩
structure RowOk (r : TRow) : Prop where
  ring : r.1.length ≤ 6
  nums : ∀ x ∈ r.1, 0 ≤ x ∧ x < 6
  am : 1 ≤ r.2.1 ∧ r.2.1 ≤ 1000000000
  bef : r.2.2.length ≤ 40
  befs : ∀ x ∈ r.2.2, 0 ≤ x ∧ x < 40
end
abbrev Pr := List Int × Int
def cl (S P : List Int) (a k : Int) : Int := max 0 (min a (gp S k - gp P k))
section
variable {b : List House} {S P T w : List Int}
inductive Greedy (b : List House) : List Int → List Pr → Prop where
  | nil {P : List Int} : ringsL b P = [] → Greedy b P []
  | cons {P w : List Int} {r : List Pr} : w ∈ ringsL b P → Greedy b (moreL P w (restL b P w)) r → Greedy b P ((w, restL b P w) :: r)
theorem ringsL_turn (hb : GoodB b) (hP : Setl b P) (hw : w ∈ ringsL b P) {a : Int} (a1 : 1 ≤ a) (a2 : a ≤ restL b P w) : Setl b (moreL P w a) := by
  obtain ⟨i, ⟨i0, i1⟩, e, _⟩ := mem_ringsL.mp hw
  exact turn_setl hb hP i0 i1 e (by omega) a2
def ChOk : List Pr → List Int → Prop
  | [], [] => True
  | (w, a) :: r, c :: cs => (0 ≤ c ∧ c ≤ a) ∧ (c < a → ∀ p ∈ r.zip cs, (∃ h ∈ w, h ∈ p.1.1) → p.2 = 0) ∧ ChOk r cs
  | _, _ => False
theorem ring_here (hb : GoodB b) (hP : Setl b P) (hT : Setl b T) (hw : w ∈ ringsL b P) (he : ∀ h ∈ w, gp T h = gp P h) : w ∈ ringsL b T ∧ restL b T w = restL b P w := by
  obtain ⟨i, ⟨i0, i1⟩, e, hd⟩ := mem_ringsL.mp hw
  obtain ⟨w1, w2, w3⟩ := ringL_facts hb hP.1 i0 i1 e
  have hh : ∀ h ∈ w, headH b T h = headH b P h := fun h hm => by unfold headH; rw [he h hm]
  have hn : ∀ h ∈ w, nx b T h = nx b P h := fun h hm => by unfold nx; rw [hh h hm]
  have R := ringL_at e
  refine ⟨mem_ringsL.mpr ⟨i, ⟨i0, i1⟩, ringL_of (nx_range hb hT.1) i0 i1 ⟨isRing_congr R.ring hn, R.mem, R.hd⟩, hd⟩, ?_⟩
  unfold restL
  congr 1
  refine List.map_congr_left fun h hm => ?_
  unfold restH; rw [hh h hm]
theorem more_zero (hl : T.length = n) : moreL T w 0 = T := by
  refine gp_ext (moreL_length _ _ _) fun k k0 k1 => ?_
  rw [moreL_length] at k1
  rw [moreL_gp k0 k1]; split <;> omega
structure Here (b : List House) (T P : List Int) (l : List Pr) (cs : List Int) : Prop where
  set : Setl b T
  le : ∀ k : Int, 0 ≤ k → k < b.length → gp T k ≤ gp P k
  eq : ∀ p ∈ l.zip cs, p.2 ≠ 0 → ∀ h ∈ p.1.1, gp T h = gp P h
theorem Here.step (hb : GoodB b) (hP : Setl b P) (hw : w ∈ ringsL b P) {r : List Pr} {c : Int} {cs : List Int} (H : Here b T P ((w, restL b P w) :: r) (c :: cs)) (hc : ChOk ((w, restL b P w) :: r) (c :: cs))
    (hin : ∀ q ∈ r, ∀ h ∈ q.1, 0 ≤ h ∧ h < (b.length : Int)) : Here b (moreL T w c) (moreL P w (restL b P w)) r cs := by
  obtain ⟨⟨c0, c1⟩, c2, c3⟩ := hc
  obtain ⟨h1, h2, h3, h4, h5, h6⟩ := ringsL_facts hb hP.1 hw
  have gT : ∀ k : Int, 0 ≤ k → k < b.length → gp (moreL T w c) k = gp T k + (if k ∈ w then c else 0) := fun k k0 k1 => moreL_gp k0 (by rw [H.set.1.len]; exact k1)
  have gP : ∀ k : Int, 0 ≤ k → k < b.length → gp (moreL P w (restL b P w)) k = gp P k + (if k ∈ w then restL b P w else 0) := fun k k0 k1 => moreL_gp k0 (by rw [hP.1.len]; exact k1)
  refine ⟨?_, fun k k0 k1 => ?_, fun p hp hn h hh => ?_⟩
  · by_cases hz : c = 0
    · rw [hz, more_zero rfl]; exact H.set
    · have := ring_here hb hP H.set hw (H.eq _ (by show _ ∈ (_ :: _); exact List.mem_cons_self) hz)
      exact ringsL_turn hb H.set this.1 (by omega) (by rw [this.2]; exact c1)
  · rw [gT k k0 k1, gP k k0 k1]
    have := H.le k k0 k1
    split <;> omega
  · have hr := hin p.1 (List.of_mem_zip hp).1 h hh
    have e0 := H.eq p (by show p ∈ (_ :: _); exact List.mem_cons_of_mem _ hp) hn h hh
    rw [gT h hr.1 hr.2, gP h hr.1 hr.2, e0]
    by_cases hm : h ∈ w
    · rw [if_pos hm, if_pos hm]
      by_cases hlt : c < restL b P w
      · exact (hn (c2 hlt p hp ⟨h, hm, hh⟩)).elim
      · omega
    · rw [if_neg hm, if_neg hm]
end
section
variable {b : List House} {P L : List Int}
structure ChI (R : List TRow) (c : List Int) : Prop where
  len : c.length = R.length
  rg : ∀ (j : Nat) r v, R[j]? = some r → c[j]? = some v → 0 ≤ v ∧ v ≤ r.2.1
  full : ∀ (j : Nat) r v, R[j]? = some r → c[j]? = some v → 0 < v → ∀ k ∈ r.2.2, ∃ (i : Nat) (q : TRow), k = (i : Int) ∧ R[i]? = some q ∧ c[i]? = some q.2.1
end
section
variable {b : List House} {P L S T w : List Int}
end
section
variable {b : List House} {P S S' T L w : List Int}
end
def kindsP : List Str := ["BadBatch", "Busy", "NoChoice", "NotBelow", "NothingToUndo", "OtherBook", "TooManyEdits"]
def kindsF : List Str := ["BadBook", "BadPile", "BadSlip", "BadText", "NoAmount", "NoHouse", "NoIndex", "NoRing", "NoSettlement", "NoVersion", "Overdrawn", "Rejected", "TooDeep", "TooLarge", "TooMany", "TooRich"]
def kinds (bs : List Bool) : List Int := (rgI 0 bs.length).filterMap fun k => if bs.getD k.toNat false = true then some k else none
theorem kinds_lc {bs : List Bool} {n : Nat} (hn : bs.length = n) (hs : n ≤ 100) {Q : List Int → Prop} (h : Q (kinds bs)) : (rgI 0 n).length ≤ sizeLine ∧ lcP (fun a Q E => ∃ x, atI bs a = some x ∧ Q x) (fun a Q E => Q a) (fun _ => False) (rgI 0 n) [] Q := by
  subst hn
  refine lc_filter (fun k => if bs.getD k.toNat false = true then some k else none) (by rw [rgI_length]; omega) (fun k hk Y N y0 n0 => ?_) h
  rw [mem_rgI] at hk
  refine ⟨_, atI_int (by omega) (by omega), ?_⟩
  have e : bs.getD k.toNat false = bs[k.toNat]'(by omega) := by rw [List.getD_eq_getElem?_getD, List.getElem?_eq_getElem (by omega)]; rfl
  rw [e] at y0 n0
  cases hb : bs[k.toNat]'(by omega) with
  | true => rw [hb] at y0; show if true = true then _ else _; rw [if_pos rfl]; exact y0 k (by rw [if_pos rfl])
  | false => rw [hb] at n0; show if false = true then _ else _; rw [if_neg (by simp)]; exact n0 (by rw [if_neg (by simp)])
theorem F__law_plain {C : Addr} {fs : List (Str × D)} {Q : List Int → Prop} {E : EK} (h : Q (kinds (kindsP.map (isx (xnm C))))) : t__law_plain (.vo C fs) Q E := by
  simp only [t__law_plain, isMW]
  exact ⟨szle (by omega), szle (by omega), szle (by simp), szlt (by simp), in62_of (by omega) (by omega), kinds_lc (n := (7 : Int).toNat) rfl (by decide) h⟩
theorem F__law_filled {C : Addr} {fs : List (Str × D)} {Q : List Int → Prop} {E : EK} (h : Q (kinds (kindsF.map (isx (xnm C))))) : t__law_filled (.vo C fs) Q E := by
  simp only [t__law_filled, isMW]
  exact ⟨szle (by omega), szle (by omega), szle (by simp), szle (by omega), szle (by simp), szle (by omega), szle (by simp), szle (by omega), szle (by simp), szlt (by simp), in62_of (by omega) (by omega), kinds_lc (n := (16 : Int).toNat) rfl (by decide) h⟩
theorem ne_selfL {x : List Int} {P Q : Prop} (q : Q) : if (!(eqB x x)) = true then P else Q := by rw [if_neg (by simp [eqB])]; exact q
theorem stepP {C : Addr} {fs : List (Str × D)} {k : Int} (h1 : kinds (kindsP.map (isx (xnm C))) = [k]) (h2 : kinds (kindsF.map (isx (xnm C))) = []) {A N : Prop} {E : EK} (hN : N) :
    t__law_plain (.vo C fs) (fun r => szOk 1 ∧ (if (!(eqB r [k])) = true then A else t__law_filled (.vo C fs) (fun r2 => szOk 0 ∧ (if (!(eqB r2 [])) = true then A else N)) E)) E :=
  F__law_plain (by rw [h1]; exact ⟨szle (by omega), ne_selfL (F__law_filled (by rw [h2]; exact ⟨szle (by omega), ne_selfL hN⟩))⟩)
theorem stepF {C : Addr} {fs : List (Str × D)} {k : Int} (h1 : kinds (kindsF.map (isx (xnm C))) = [k]) (h2 : kinds (kindsP.map (isx (xnm C))) = []) {A N : Prop} {E : EK} (hN : N) :
    t__law_filled (.vo C fs) (fun r => szOk 1 ∧ (if (!(eqB r [k])) = true then A else t__law_plain (.vo C fs) (fun r2 => szOk 0 ∧ (if (!(eqB r2 [])) = true then A else N)) E)) E :=
  F__law_filled (by rw [h1]; exact ⟨szle (by omega), ne_selfL (F__law_plain (by rw [h2]; exact ⟨szle (by omega), ne_selfL hN⟩))⟩)
abbrev errsP : List D := [D.vo 37 [], D.vo 125 [], D.vo 156 [], D.vo 244 [], D.vo 256 [], D.vo 287 [], D.vo 394 []]
abbrev errsF (x x2 x3 x4 x5 x6 x7 x8 x9 x10 x11 x12 x13 x14 x15 x16 : D) : List D := [D.vo 56 [("error", x)], D.vo 75 [("error", x2)], D.vo 94 [("index", x3)], D.vo 113 [("index", x4)], D.vo 144 [("amount", x5)], D.vo 175 [("house", x6)], D.vo 194 [("index", x7)], D.vo 213 [("house", x8)], D.vo 232 [("error", x9)], D.vo 275 [("version", x10)], D.vo 306 [("house", x11)], D.vo 325 [("index", x12)], D.vo 344 [("house", x13)], D.vo 363 [("limit", x14)], D.vo 382 [("limit", x15)], D.vo 413 [("house", x16)]]
theorem eqA_nil {Q : Bool → Prop} {E : EK} (h : Q true) : eqA (eL eA []) (eL eA []) Q E := ⟨⟨rfl, rfl, by decide⟩, h⟩
theorem lc_none {p : D → W Bool} {E : EK} {xs : List D} {Q : List D → Prop} (hl : xs.length ≤ 16000000) (hp : ∀ x ∈ xs, ∀ (Z : Bool → Prop) (E : EK), Z true → p x Z E) (h : Q []) :
    xs.length ≤ sizeLine ∧ lcP (fun a Q E => p a (fun r => Q (!r)) E) (fun a Q E => Q a) (fun _ => False) xs [] Q := by
  refine lc_filter (fun _ => none) hl (fun x hx Y N y0 n0 => hp x hx _ _ ?_) ?_
  · show if false = true then _ else _
    rw [if_neg (by simp)]; exact n0 rfl
  · rw [show (xs.filterMap fun _ => (none : Option D)) = [] from by simp]; exact h
theorem vo_isM {C : Addr} {fs : List (Str × D)} {Q : Bool → Prop} {E : EK} (h : Q true) : isMW "SlipError" (.vo C fs) Q E := by
  show Q (isx (xnm C) "SlipError")
  rw [show isx (xnm C) "SlipError" = true from by simp [isx]]; exact h
theorem F__law_alone {x x2 x3 x4 x5 x6 x7 x8 x9 x10 x11 x12 x13 x14 x15 x16 : D} {Q : Bool → Prop} {E : EK} (h : Q true) : t__law_alone errsP (errsF x x2 x3 x4 x5 x6 x7 x8 x9 x10 x11 x12 x13 x14 x15 x16) Q E := by
  unfold t__law_alone
  have all : ∀ a ∈ errsP ++ errsF x x2 x3 x4 x5 x6 x7 x8 x9 x10 x11 x12 x13 x14 x15 x16, ∃ C fs, a = D.vo C fs := fun a ha => by
    simp only [List.cons_append, List.nil_append, List.mem_cons, List.not_mem_nil, or_false] at ha
    rcases ha with rfl | rfl | rfl | rfl | rfl | rfl | rfl | rfl | rfl | rfl | rfl | rfl | rfl | rfl | rfl | rfl | rfl | rfl | rfl | rfl | rfl | rfl | rfl <;> exact ⟨_, _, rfl⟩
  refine forP_all _ (fun v hv N k => ?_) (forP_all _ (fun v hv N k => ?_) ?_)
  · have hv : v ∈ [((0 : Int), D.vo 37 []), (1, D.vo 125 []), (2, D.vo 156 []), (3, D.vo 244 []), (4, D.vo 256 []), (5, D.vo 287 []), (6, D.vo 394 [])] := hv
    simp only [List.mem_cons, List.not_mem_nil, or_false] at hv
    rcases hv with rfl | rfl | rfl | rfl | rfl | rfl | rfl <;> exact stepP (by dsimp only; decide +kernel) (by decide +kernel) k
  · have hv : v ∈ [((0 : Int), D.vo 56 [("error", x)]), (1, D.vo 75 [("error", x2)]), (2, D.vo 94 [("index", x3)]), (3, D.vo 113 [("index", x4)]), (4, D.vo 144 [("amount", x5)]), (5, D.vo 175 [("house", x6)]), (6, D.vo 194 [("index", x7)]), (7, D.vo 213 [("house", x8)]), (8, D.vo 232 [("error", x9)]), (9, D.vo 275 [("version", x10)]), (10, D.vo 306 [("house", x11)]), (11, D.vo 325 [("index", x12)]), (12, D.vo 344 [("house", x13)]), (13, D.vo 363 [("limit", x14)]), (14, D.vo 382 [("limit", x15)]), (15, D.vo 413 [("house", x16)])] := hv
    simp only [List.mem_cons, List.not_mem_nil, or_false] at hv
    rcases hv with rfl | rfl | rfl | rfl | rfl | rfl | rfl | rfl | rfl | rfl | rfl | rfl | rfl | rfl | rfl | rfl <;> exact stepF (by dsimp only; decide +kernel) (by decide +kernel) k
  · refine ⟨szle (by simp), lc_none (p := isMW "SlipError") (E := E) (by simp) (fun a ha Z E hz => ?_) ⟨szle (by omega), eqA_nil ?_⟩⟩
    · obtain ⟨C, fs, rfl⟩ := all a ha
      exact vo_isM hz
    · show if true = true then _ else _
      rw [if_pos rfl]
      refine lc_none (p := isEW) (E := E) (by simp) (fun a ha Z E hz => ?_) ⟨szle (by omega), eqA_nil h⟩
      obtain ⟨C, fs, rfl⟩ := all a ha
      exact hz
theorem look_one {f : Str} {x : D} : List.lookup f [(f, x)] = some x := by simp [List.lookup]
theorem F__law_made {x x2 x3 x4 x5 x6 x7 x8 x9 x10 x11 x12 x13 x14 x15 x16 : D} {Q : List D × List D → Prop} {E : EK} (h : Q (errsF x x2 x3 x4 x5 x6 x7 x8 x9 x10 x11 x12 x13 x14 x15 x16, [x, x2, x3, x4, x5, x6, x7, x8, x9, x10, x11, x12, x13, x14, x15, x16])) :
    t__law_made [x, x2, x3, x4, x5, x6, x7, x8, x9, x10, x11, x12, x13, x14, x15, x16] Q E := by
  unfold t__law_made
  exact ⟨x, rfl, x2, rfl, x3, rfl, x4, rfl, x5, rfl, x6, rfl, x7, rfl, x8, rfl, x9, rfl, x10, rfl, x11, rfl, x12, rfl, x13, rfl, x14, rfl, x15, rfl, x16, rfl,
    x, look_one, x2, look_one, x3, look_one, x4, look_one, x5, look_one, x6, look_one, x7, look_one, x8, look_one, szle (by omega),
    x9, look_one, x10, look_one, x11, look_one, x12, look_one, x13, look_one, x14, look_one, x15, look_one, szle (by omega), szle (by simp), szle (by omega), x16, look_one, szle (by omega), szle (by simp), h⟩
theorem fit_nums {xs : List Int} (hl : xs.length ≤ 10) (h : ∀ x ∈ xs, 0 ≤ x ∧ x ≤ 1000000000000) : Fit (eL eI xs) := by
  have s : SmL (10 * 1) 1 (xs.map eI) := SmL.of 10 (by rw [List.length_map]; exact hl) fun x hx => by
    obtain ⟨y, hy, rfl⟩ := List.mem_map.mp hx
    have := h y hy
    exact Sm.it (by omega) (by omega)
  exact s.ls.fit (by omega) (by omega)
theorem tl : t_law (fun b => b = true) (fun _ => False) := by
  unfold t_law
  refine ⟨in62_of (by omega) (by omega), lc_rel (fun _ d => Sm 14 3 d) (by rw [rgI_length]; decide) (fun a _ Y hY => fun d hd => hY d hd) (fun ys hys => ?_)⟩
  have hl : ys.length = 16 := by rw [hys.length, rgI_length]; rfl
  have fy : Fit (eL eA ys) := (SmL.of (m := 14) (h := 3) 16 (xs := ys.map eA) (by rw [List.length_map]; omega) (fun d hd => by
    obtain ⟨d, hd', rfl⟩ := List.mem_map.mp hd
    obtain ⟨_, _, q⟩ := hys.mem d hd'
    exact q)).ls.fit (by omega) (by omega)
  clear hys
  obtain ⟨x, x2, x3, x4, x5, x6, x7, x8, x9, x10, x11, x12, x13, x14, x15, x16, rfl⟩ : ∃ x x2 x3 x4 x5 x6 x7 x8 x9 x10 x11 x12 x13 x14 x15 x16, ys = [x, x2, x3, x4, x5, x6, x7, x8, x9, x10, x11, x12, x13, x14, x15, x16] := by
    match ys, hl with
    | [x, x2, x3, x4, x5, x6, x7, x8, x9, x10, x11, x12, x13, x14, x15, x16], _ => exact ⟨_, _, _, _, _, _, _, _, _, _, _, _, _, _, _, _, rfl⟩
  refine F__law_made ⟨szle (by omega), fy, fy, ne_self (F__law_alone ?_)⟩
  show if false = true then _ else _
  rw [if_neg (by simp)]
  refine ⟨szle (by omega), szlt (by simp), szle (by omega), join1 ⟨_, look_one, szle (by omega), ⟨by decide, by decide, by decide⟩, ?_⟩⟩
  show if (!eqD (eL eI ([(0 : Int)] ++ [(1 : Int)])) (eL eI [(0 : Int), (1 : Int)])) = true then _ else _
  rw [if_neg (by decide +kernel)]
  have p1 : (10 : Int) ^ (9 : Int).toNat = 1000000000 := by decide
  have p2 : (10 : Int) ^ (12 : Int).toNat = 1000000000000 := by decide
  rw [p1, p2]
  have ff : Fit (eL eI [(20 : Int), 30, 1000000000, 6, 1000000000000, 6, 400]) := fit_nums (by simp) (by decide)
  refine ⟨ff, cpow_dec (by decide), cpow_dec (by decide), szle (by omega), join1 ⟨ff, ?_⟩⟩
  show eqB _ _ = true
  simp [eqB]
theorem cpow {i j : Int} (h : (decide (0 ≤ j) && decide (j ≤ 1000000) && decide (i.natAbs < 2 ^ 64)) = true) : CPow i j := by
  simp only [Bool.and_eq_true, decide_eq_true_eq] at h
  exact ⟨h.1.1, h.1.2, h.2⟩
theorem sm_all {m h : Nat} {xs : List D} (e : (xs.all fun d => okB d && decide (mass d ≤ m) && decide (deep d ≤ h)) = true) {d : D} (hd : d ∈ xs) : Sm m h d := sm_dec (List.all_eq_true.mp e d hd)
theorem atI_some {xs : List D} {r : Int} (h0 : 0 ≤ r) (h1 : r < xs.length) : ∃ y, atI xs r = some y ∧ y ∈ xs := by
  obtain ⟨j, rfl⟩ : ∃ j : Nat, r = (j : Int) := ⟨r.toNat, by omega⟩
  have hj : j < xs.length := by omega
  exact ⟨xs[j], atI_nat (List.getElem?_eq_getElem hj), List.getElem_mem _⟩
theorem len__law_one : ∀ ds Q E, sp__law_one ds Q E → ds.length = 2 := by
  intro ds Q E h; unfold sp__law_one at h; split at h
  · rfl
  · exact h.elim
theorem law__law_one : ∀ ds Q E, sp__law_one ds Q E → d__law_one { nx := fun _ => Q .non, rt := Q, ex := E } (dstart 2 ds) := by
  intro ds Q E h
  unfold sp__law_one at h
  split at h
  · next P x =>
    obtain ⟨rfl, h⟩ := h
    split at h
    · next ys e =>
      obtain ⟨h0, h1, h2⟩ := h
      have h3 := List.length_pos_iff.mpr h0
      have key : ∀ r : Int, 0 ≤ r → r < ys.length → ∃ y, atI ys r = some y ∧ Q y := fun r a b => by
        obtain ⟨y, e1, e2⟩ := atI_some a b
        exact ⟨y, e1, h2 y e2⟩
      cases x with
      | tp zs =>
        cases e
        show d__law_one _ [.v dBox, .v (.tp ys)]
        simp only [d__law_one, d__law_one_0, r__law_one_0, dVar, dC, dOp, dTst, dAnd, dOr, dNot, dAndV, dOrV, dNotV, dIf, dNil, dCons, dStar, dTup, dLst, dCB, oAdd, oI, oI0, oSub, oFdiv, oMod, oPow, oLt, oLe, oGt, oGe, oMulA, dNeg, dChain, dIsN, dNotN, dIsi, oLen, oIx, oSl, dNoPart, dPart, dSl, oList, oTuple, dNext, dSeq, dBreak, dContinue, dRet, dRetN, dDrop, dIfS, dgName, dgNil, dgCons, dgTup, dAsg, dSet, dPar, dParO, dAug, dFrz, dSeqI, dRng1, dRng2, dEnum, dZip, dFor, dYes, dLc, dSetN, dSetO, dLstN, dCatN, dRepN, dListN, dApp, dCall, oRepr, oEq, oNe, oIn, oNotIn, dRev, dDic0, dDic1, oInt, oAbs, oSum, oMaxL, oMinL, oAny, oAll, dLend, dbLend, dFrzS, dSetIx, dAugIx, oAddN, oSubN, oStrN, oEqNilT, szl0, szl1, szl2, szl3, szl4, szl5, szl6, szl7, szl8, true_and, List.getElem?_cons_zero, List.getElem?_cons_succ, List.set_cons_zero, List.set_cons_succ]
        refine ⟨ys.length, rfl, by omega, by omega, fun r a b => ?_⟩
        obtain ⟨y, e1, e2⟩ := key r a b
        show (match atI ys r with | some d => Q d | none => False)
        rw [e1]; exact e2
      | ls zs =>
        cases e
        show d__law_one _ [.v dBox, .v (.ls ys)]
        simp only [d__law_one, d__law_one_0, r__law_one_0, dVar, dC, dOp, dTst, dAnd, dOr, dNot, dAndV, dOrV, dNotV, dIf, dNil, dCons, dStar, dTup, dLst, dCB, oAdd, oI, oI0, oSub, oFdiv, oMod, oPow, oLt, oLe, oGt, oGe, oMulA, dNeg, dChain, dIsN, dNotN, dIsi, oLen, oIx, oSl, dNoPart, dPart, dSl, oList, oTuple, dNext, dSeq, dBreak, dContinue, dRet, dRetN, dDrop, dIfS, dgName, dgNil, dgCons, dgTup, dAsg, dSet, dPar, dParO, dAug, dFrz, dSeqI, dRng1, dRng2, dEnum, dZip, dFor, dYes, dLc, dSetN, dSetO, dLstN, dCatN, dRepN, dListN, dApp, dCall, oRepr, oEq, oNe, oIn, oNotIn, dRev, dDic0, dDic1, oInt, oAbs, oSum, oMaxL, oMinL, oAny, oAll, dLend, dbLend, dFrzS, dSetIx, dAugIx, oAddN, oSubN, oStrN, oEqNilT, szl0, szl1, szl2, szl3, szl4, szl5, szl6, szl7, szl8, true_and, List.getElem?_cons_zero, List.getElem?_cons_succ, List.set_cons_zero, List.set_cons_succ]
        refine ⟨ys.length, rfl, by omega, by omega, fun r a b => ?_⟩
        obtain ⟨y, e1, e2⟩ := key r a b
        show (match atI ys r with | some d => Q d | none => False)
        rw [e1]; exact e2
      | _ => cases e
    · exact h.elim
  · exact h.elim
theorem len__law_odd : ∀ ds Q E, sp__law_odd ds Q E → ds.length = 1 := by
  rintro ds Q E ⟨rfl, _⟩; rfl
theorem law__law_odd : ∀ ds Q E, sp__law_odd ds Q E → d__law_odd { nx := fun _ => Q .non, rt := Q, ex := E } (dstart 2 ds) := by
  rintro ds Q E ⟨rfl, h⟩
  show d__law_odd _ [.v dBox, .no]
  simp only [d__law_odd, d__law_odd_2, r__law_odd_2, d__law_odd_1, r__law_odd_1, d__law_odd_0, r__law_odd_0, dVar, dC, dOp, dTst, dAnd, dOr, dNot, dAndV, dOrV, dNotV, dIf, dNil, dCons, dStar, dTup, dLst, dCB, oAdd, oI, oI0, oSub, oFdiv, oMod, oPow, oLt, oLe, oGt, oGe, oMulA, dNeg, dChain, dIsN, dNotN, dIsi, oLen, oIx, oSl, dNoPart, dPart, dSl, oList, oTuple, dNext, dSeq, dBreak, dContinue, dRet, dRetN, dDrop, dIfS, dgName, dgNil, dgCons, dgTup, dAsg, dSet, dPar, dParO, dAug, dFrz, dSeqI, dRng1, dRng2, dEnum, dZip, dFor, dYes, dLc, dSetN, dSetO, dLstN, dCatN, dRepN, dListN, dApp, dCall, oRepr, oEq, oNe, oIn, oNotIn, dRev, dDic0, dDic1, oInt, oAbs, oSum, oMaxL, oMinL, oAny, oAll, dLend, dbLend, dFrzS, dSetIx, dAugIx, oAddN, oSubN, oStrN, oEqNilT, szl0, szl1, szl2, szl3, szl4, szl5, szl6, szl7, szl8, true_and, List.getElem?_cons_zero, List.getElem?_cons_succ, List.set_cons_zero, List.set_cons_succ]
  refine ⟨cpow rfl, cpow rfl, cpow rfl, cpow rfl, by show 17 ≤ sizeLine; decide, by show 11 ≤ sizeLine; decide, by show 28 ≤ sizeLine; decide, rfl, by simp, by show 28 ≤ 1000; decide, fun y hy => h y (sm_all (by decide +kernel) hy)⟩
def spLaw (K : PySem.W.Frag) : Sp := fun vs H Q _ => ∃ (a : Addr) (ns : List Int), vs = [.ref a] ∧ SqL K H a (ns.map V.int) ∧ ∀ H', Q (.bl true) H'
def spOpen (K : PySem.W.Frag) : Sp := fun vs H Q _ => ∃ (a : Addr) (ns : List Int), vs = [.ref a] ∧ SqL K H a (ns.map V.int) ∧ ∀ H' b g s gs ss t, B1 b g s H' gs ss t → (∀ a o, H a = some o → H' a = some o) → H b = none → H g = none → H s = none → Q (.ref b) H'
section
variable {P : Program} {w : World} {K : PySem.W.Frag} {mg : Str → Option Value} {base : Heap}
def tH (sp : Sp) (E : XK) (t : TA) : L2.TE := fun σ H Q => t σ H fun vs H1 => sp vs H1 Q E
theorem pe_hcall {X : Cx} {E : XK} {k : Nat} {f : Addr} {fd : FuncData} {ps : List Str} {sp : Sp} {x : Str} {p pos : Pos} {e : Expr} {es : List Expr} {t : TA} (F : HFn X.prog X.w X.K X.mg X.base k f fd ps sp) (hr : Room k X.A) (hgd : X.A.guards = some []) (hg : Gl X x) (hm : X.mg x = some (.ref f)) (kp : PySem.W.keepIn X.K (.ref f) = true)
    (hb : Binds X.K fd ps []) (hx : Passes (L2.CX X.prog X.w) X E) (ha : PA X (e :: es) t) (hdb : (x == ("__debug__" : Str)) = false := by decide) (he : starEach (e :: es) X.env = (false, eval e X.env) :: starEach es X.env := by rfl) (hpl : (backTo pos (starEach es X.env)).any (·.1) = false := by rfl) :
    PE X (.Call (.Name x p) (e :: es) [] pos) (tH sp E t) := by
  refine ⟨fun pins s σ H Q I h => wpAny_Call_Name_kw (ld_glob I hg hm ?_ hdb)⟩
  refine PySem.W.callWith_K (h₀ := X.base) I.ok.mod.kin kp (thn (ha.run pos pins s σ H _ I h) fun us s1 ⟨vs, H1, I1, r, hs⟩ => ⟨I1.kIn, ?_⟩) he hpl
  have hl : us.length = ps.length := by rw [← r.length]; exact F.len _ _ _ _ hs
  have b := hb s1 us I1.kIn (by rw [List.append_nil]; exact hl)
  rw [List.append_nil] at b
  refine wpAny_call (codeAny_mono (F.run X.A X.stack s1 H1 ⟨us, []⟩ us vs Q E hr hgd I1.env0 b r hs) fun res s' hq => ?_)
  match res, hq with
  | .error e, hq => exact hx pins σ H1 s1 e s' I1 hq
  | .ok (.ret u), hq => exact I1.after hq
  | .ok .next, hq => exact False.elim hq
  | .ok .brk, hq => exact False.elim hq
  | .ok .cont, hq => exact False.elim hq
theorem h_law {f fo : Addr} {fd fdo : FuncData} (F : Fun K "law" "law" s_law f fd) (G : Gs K mg) (hsys : ∃ o, base.get? sysModules = some o) (O : HFn P w K mg base 1 fo fdo ["_law_script"] (spOpen K)) (mo : mg "_law_opened" = some (.ref fo)) (ko : PySem.W.keepIn K (.ref fo) = true) (bo : Binds K fdo ["_law_script"] []) (C__law_alone : Cal P w K mg base 3 "_law_alone" ["_law_errors", "_law_others"] sp__law_alone) (C__law_made : Cal P w K mg base 3 "_law_made" ["_law_values"] sp__law_made) (C__law_odd : Cal P w K mg base 3 "_law_odd" ["_law_box"] sp__law_odd) :
    HFn P w K mg base 4 f fd ["_law_script"] (spLaw K) := by
  refine hfn_mk F sc_law (fun vs H Q E ⟨_, _, e, _⟩ => by rw [e]; rfl) fun cdv A outer s0 H vs Q E hr hgd h => ?_
  obtain ⟨a, ns, rfl, hS, kq⟩ := h
  obtain ⟨t, p, q⟩ := (w_law G hsys C__law_alone C__law_made C__law_odd cdv A outer s0 H E hr hgd).run
  refine ⟨_, pss_cons (ps_set (i := 1) sc_law.nd rfl (by first | exact Or.inl rfl | exact Or.inr rfl) (pe_hcall O (hr.mono (by decide)) hgd rfl mo ko bo passD (pa_cons (pv 0) pa_nil))) p, ?_⟩
  refine ⟨_, rfl, a, ns, rfl, hS, fun H' b g s gs ss t' hB _ _ _ _ => ?_⟩
  have g1 : Good ⟨some (b1 b g s), fun _ => none⟩ H' := ⟨fun _ _ e => (by have e' : (none : Option HO) = some _ := e; cases e'), fun x e => (by cases (show some (b1 b g s) = some x from e); exact ⟨gs, ss, t', hB⟩), fun _ _ => rfl⟩
  have r1 : Rel H' ⟨some (b1 b g s), fun _ => none⟩ H' [some (.ref a), some (.ref b), none, none, none, none, none, none, none, none] [.no, .v dBox, .no, .no, .no, .no, .no, .no, .no, .no] := (rel_no [some (.ref a), none, none, none, none, none, none, none, none, none]).put (i := 1) (x := .ref b) (Rp.bx (x := (b1 b g s)) rfl ⟨b, g, s, rfl⟩)
  refine q ⟨⟨some (b1 b g s), fun _ => none⟩, H', fun _ => none, some (b1 b g s)⟩ { nx := fun _ => False, rt := fun x => x = .bl true, ex := fun _ => False } _ ⟨fun _ _ _ _ _ _ h => h.elim, fun _ _ _ _ _ _ h => h.elim, fun _ _ _ _ _ _ h => h.elim, fun S v d H2 _ rv hd => ?_, xl_none, fun _ _ _ _ _ _ _ _ _ h => h.elim⟩ _ _ _ H' ⟨g1, .refl _ _, .refl _ _⟩ r1 (tlaw_law tl .no)
  subst hd
  cases rv
  exact kq H2
end
theorem all_mk {P : Program} {w : World} {K : PySem.W.Frag} {h : Heap} {mg : Str → Option Value} {fa : Addr} (X : K.In h) (N : h.Ns mainGlobals mg) (hfa : mg "law" = some (.ref fa))
    {f0 : Addr} {od0 an0 : Option Addr} {sl0 : Array (Option Value)} {oc0 kV0 dc0 pm0 cd0 ct0 : Value} (a0 : PySem.W.nsIn K mainGlobals "_law_draw" = some (some (.ref f0))) (l0 : K.lookup f0 = some ⟨oc0, od0, .func (PySem.W.fnOf "_law_draw" "_law_draw" (defArgs s__law_draw) (defBody s__law_draw) (defScope s__law_draw) .none kV0 dc0 pm0 an0 cd0 ct0), sl0⟩) (c0 : PySem.W.codeIn K cd0 "_law_draw" = true) (k0 : PySem.W.keepIn K (.ref f0) = true)
    {f1 : Addr} {od1 an1 : Option Addr} {sl1 : Array (Option Value)} {oc1 kV1 dc1 pm1 cd1 ct1 : Value} (a1 : PySem.W.nsIn K mainGlobals "_law_filled" = some (some (.ref f1))) (l1 : K.lookup f1 = some ⟨oc1, od1, .func (PySem.W.fnOf "_law_filled" "_law_filled" (defArgs s__law_filled) (defBody s__law_filled) (defScope s__law_filled) .none kV1 dc1 pm1 an1 cd1 ct1), sl1⟩) (c1 : PySem.W.codeIn K cd1 "_law_filled" = true) (k1 : PySem.W.keepIn K (.ref f1) = true)
    {f2 : Addr} {od2 an2 : Option Addr} {sl2 : Array (Option Value)} {oc2 kV2 dc2 pm2 cd2 ct2 : Value} (a2 : PySem.W.nsIn K mainGlobals "_law_made" = some (some (.ref f2))) (l2 : K.lookup f2 = some ⟨oc2, od2, .func (PySem.W.fnOf "_law_made" "_law_made" (defArgs s__law_made) (defBody s__law_made) (defScope s__law_made) .none kV2 dc2 pm2 an2 cd2 ct2), sl2⟩) (c2 : PySem.W.codeIn K cd2 "_law_made" = true) (k2 : PySem.W.keepIn K (.ref f2) = true)
    {f3 : Addr} {od3 an3 : Option Addr} {sl3 : Array (Option Value)} {oc3 kV3 dc3 pm3 cd3 ct3 : Value} (a3 : PySem.W.nsIn K mainGlobals "_law_plain" = some (some (.ref f3))) (l3 : K.lookup f3 = some ⟨oc3, od3, .func (PySem.W.fnOf "_law_plain" "_law_plain" (defArgs s__law_plain) (defBody s__law_plain) (defScope s__law_plain) .none kV3 dc3 pm3 an3 cd3 ct3), sl3⟩) (c3 : PySem.W.codeIn K cd3 "_law_plain" = true) (k3 : PySem.W.keepIn K (.ref f3) = true)
    {f4 : Addr} {od4 an4 : Option Addr} {sl4 : Array (Option Value)} {oc4 kV4 dc4 pm4 cd4 ct4 : Value} (a4 : PySem.W.nsIn K mainGlobals "_law_alone" = some (some (.ref f4))) (l4 : K.lookup f4 = some ⟨oc4, od4, .func (PySem.W.fnOf "_law_alone" "_law_alone" (defArgs s__law_alone) (defBody s__law_alone) (defScope s__law_alone) .none kV4 dc4 pm4 an4 cd4 ct4), sl4⟩) (c4 : PySem.W.codeIn K cd4 "_law_alone" = true) (k4 : PySem.W.keepIn K (.ref f4) = true)
    {f5 : Addr} {od5 an5 : Option Addr} {sl5 : Array (Option Value)} {oc5 kV5 dc5 pm5 cd5 ct5 : Value} (a5 : PySem.W.nsIn K mainGlobals "_law_one" = some (some (.ref f5))) (l5 : K.lookup f5 = some ⟨oc5, od5, .func (PySem.W.fnOf "_law_one" "_law_one" (defArgs s__law_one) (defBody s__law_one) (defScope s__law_one) .none kV5 dc5 pm5 an5 cd5 ct5), sl5⟩) (c5 : PySem.W.codeIn K cd5 "_law_one" = true) (k5 : PySem.W.keepIn K (.ref f5) = true)
    {f6 : Addr} {od6 an6 : Option Addr} {sl6 : Array (Option Value)} {oc6 kV6 dc6 pm6 cd6 ct6 : Value} (a6 : PySem.W.nsIn K mainGlobals "_law_odd" = some (some (.ref f6))) (l6 : K.lookup f6 = some ⟨oc6, od6, .func (PySem.W.fnOf "_law_odd" "_law_odd" (defArgs s__law_odd) (defBody s__law_odd) (defScope s__law_odd) .none kV6 dc6 pm6 an6 cd6 ct6), sl6⟩) (c6 : PySem.W.codeIn K cd6 "_law_odd" = true) (k6 : PySem.W.keepIn K (.ref f6) = true)
    {f7 : Addr} {od7 an7 : Option Addr} {sl7 : Array (Option Value)} {oc7 kV7 dc7 pm7 cd7 ct7 : Value} (a7 : PySem.W.nsIn K mainGlobals "_law_opened" = some (some (.ref f7))) (l7 : K.lookup f7 = some ⟨oc7, od7, .func (PySem.W.fnOf "_law_opened" "_law_opened" (defArgs s__law_opened) (defBody s__law_opened) (defScope s__law_opened) .none kV7 dc7 pm7 an7 cd7 ct7), sl7⟩) (c7 : PySem.W.codeIn K cd7 "_law_opened" = true) (k7 : PySem.W.keepIn K (.ref f7) = true)
    {f8 : Addr} {od8 an8 : Option Addr} {sl8 : Array (Option Value)} {oc8 kV8 dc8 pm8 cd8 ct8 : Value} (a8 : PySem.W.nsIn K mainGlobals "law" = some (some (.ref f8))) (l8 : K.lookup f8 = some ⟨oc8, od8, .func (PySem.W.fnOf "law" "law" (defArgs s_law) (defBody s_law) (defScope s_law) .none kV8 dc8 pm8 an8 cd8 ct8), sl8⟩) (c8 : PySem.W.codeIn K cd8 "law" = true) (k8 : PySem.W.keepIn K (.ref f8) = true)
    (z_ValueError : PySem.W.nsIn K mainGlobals "ValueError" = some none) (z_abs : PySem.W.nsIn K mainGlobals "abs" = some none) (z_enumerate : PySem.W.nsIn K mainGlobals "enumerate" = some none) (z_int : PySem.W.nsIn K mainGlobals "int" = some none) (z_isinstance : PySem.W.nsIn K mainGlobals "isinstance" = some none) (z_len : PySem.W.nsIn K mainGlobals "len" = some none) (z_range : PySem.W.nsIn K mainGlobals "range" = some none) (z_repr : PySem.W.nsIn K mainGlobals "repr" = some none)
    {v_BATCH : Value} (m_BATCH : PySem.W.nsIn K mainGlobals "BATCH" = some (some v_BATCH)) (r_BATCH : RelV (.int 20) v_BATCH)
    {v_HISTORY : Value} (m_HISTORY : PySem.W.nsIn K mainGlobals "HISTORY" = some (some v_HISTORY)) (r_HISTORY : RelV (.int 30) v_HISTORY)
    {v_MAX_AMOUNT : Value} (m_MAX_AMOUNT : PySem.W.nsIn K mainGlobals "MAX_AMOUNT" = some (some v_MAX_AMOUNT)) (r_MAX_AMOUNT : RelV (.int 1000000000) v_MAX_AMOUNT)
    {v_MAX_HOUSES : Value} (m_MAX_HOUSES : PySem.W.nsIn K mainGlobals "MAX_HOUSES" = some (some v_MAX_HOUSES)) (r_MAX_HOUSES : RelV (.int 6) v_MAX_HOUSES)
    {v_MAX_PURSE : Value} (m_MAX_PURSE : PySem.W.nsIn K mainGlobals "MAX_PURSE" = some (some v_MAX_PURSE)) (r_MAX_PURSE : RelV (.int 1000000000000) v_MAX_PURSE)
    {v_MAX_SLIPS : Value} (m_MAX_SLIPS : PySem.W.nsIn K mainGlobals "MAX_SLIPS" = some (some v_MAX_SLIPS)) (r_MAX_SLIPS : RelV (.int 6) v_MAX_SLIPS)
    {v_MAX_STEPS : Value} (m_MAX_STEPS : PySem.W.nsIn K mainGlobals "MAX_STEPS" = some (some v_MAX_STEPS)) (r_MAX_STEPS : RelV (.int 400) v_MAX_STEPS)
    (xa_BadBatch : PySem.W.nsIn K mainGlobals "BadBatch" = some (some (.ref 37)))
    (xa_BadBook : PySem.W.nsIn K mainGlobals "BadBook" = some (some (.ref 56)))
    (xa_BadPile : PySem.W.nsIn K mainGlobals "BadPile" = some (some (.ref 75)))
    (xa_BadSlip : PySem.W.nsIn K mainGlobals "BadSlip" = some (some (.ref 94)))
    (xa_BadText : PySem.W.nsIn K mainGlobals "BadText" = some (some (.ref 113)))
    (xa_Busy : PySem.W.nsIn K mainGlobals "Busy" = some (some (.ref 125)))
    (xa_NoAmount : PySem.W.nsIn K mainGlobals "NoAmount" = some (some (.ref 144)))
    (xa_NoChoice : PySem.W.nsIn K mainGlobals "NoChoice" = some (some (.ref 156)))
    (xa_NoHouse : PySem.W.nsIn K mainGlobals "NoHouse" = some (some (.ref 175)))
    (xa_NoIndex : PySem.W.nsIn K mainGlobals "NoIndex" = some (some (.ref 194)))
    (xa_NoRing : PySem.W.nsIn K mainGlobals "NoRing" = some (some (.ref 213)))
    (xa_NoSettlement : PySem.W.nsIn K mainGlobals "NoSettlement" = some (some (.ref 232)))
    (xa_NotBelow : PySem.W.nsIn K mainGlobals "NotBelow" = some (some (.ref 244)))
    (xa_NothingToUndo : PySem.W.nsIn K mainGlobals "NothingToUndo" = some (some (.ref 256)))
    (xa_NoVersion : PySem.W.nsIn K mainGlobals "NoVersion" = some (some (.ref 275)))
    (xa_OtherBook : PySem.W.nsIn K mainGlobals "OtherBook" = some (some (.ref 287)))
    (xa_Overdrawn : PySem.W.nsIn K mainGlobals "Overdrawn" = some (some (.ref 306)))
    (xa_Rejected : PySem.W.nsIn K mainGlobals "Rejected" = some (some (.ref 325)))
    (xa_TooDeep : PySem.W.nsIn K mainGlobals "TooDeep" = some (some (.ref 344)))
    (xa_TooLarge : PySem.W.nsIn K mainGlobals "TooLarge" = some (some (.ref 363)))
    (xa_TooMany : PySem.W.nsIn K mainGlobals "TooMany" = some (some (.ref 382)))
    (xa_TooManyEdits : PySem.W.nsIn K mainGlobals "TooManyEdits" = some (some (.ref 394)))
    (xa_TooRich : PySem.W.nsIn K mainGlobals "TooRich" = some (some (.ref 413)))
    (xa_SlipError : PySem.W.nsIn K mainGlobals "SlipError" = some (some (.ref 24)))
    (xbE : PySem.W.subIn K (.ref 24) (.type "BaseException") = some true)
    (xbD : PySem.W.hasDictIn K 24 = true)
    (xbT : PySem.W.typeIn K (.ref 24) = some (.type "type"))
    (xhn : PySem.W.specialIn K (.builtin "object.__class__") "__get__" = some (some (.builtin "getset_descriptor.__get__")))
    (xht : PySem.W.takesIn K (.builtin "object.__class__") = some true)
    (xq_BadBatch : PySem.W.excIn K 37 [.type "ValueError", .type "Exception", .type "BaseException", .type "object"] "ValueError.__new__" = true)
    (xga_BadBatch : PySem.W.findIn K (.ref 37) "__getattribute__" = some (some (.builtin "BaseException.__getattribute__")))
    (xgg_BadBatch : PySem.W.findIn K (.ref 37) "__getattr__" = some none)
    (xha_BadBatch : PySem.W.findIn K (.ref 37) "__class__" = some (some (.builtin "object.__class__")))
    (xhm_BadBatch : PySem.W.mroIn K 37 (.type "object") = some true)
    (xf_BadBatch_error : PySem.W.findIn K (.ref 37) "error" = some none)
    (xf_BadBatch_index : PySem.W.findIn K (.ref 37) "index" = some none)
    (xf_BadBatch_amount : PySem.W.findIn K (.ref 37) "amount" = some none)
    (xf_BadBatch_house : PySem.W.findIn K (.ref 37) "house" = some none)
    (xf_BadBatch_version : PySem.W.findIn K (.ref 37) "version" = some none)
    (xf_BadBatch_limit : PySem.W.findIn K (.ref 37) "limit" = some none)
    (xk_BadBatch : PySem.W.keepIn K (.ref 37) = true)
    (xe_BadBatch : PySem.W.subIn K (.ref 37) (.type "BaseException") = some true)
    (xty_BadBatch : PySem.W.typeIn K (.ref 37) = some (.type "type"))
    (xd_BadBatch : PySem.W.hasDictIn K 37 = true)
    (xm_BadBatch : PySem.W.subIn K (.ref 37) (.ref 24) = some true)
    (xv_BadBatch : PySem.W.kitOne K (.ref 37) (.type "ValueError") = some true)
    (xt_BadBatch_BadBatch : PySem.W.kitOne K (.ref 37) (.ref 37) = some true)
    (xt_BadBatch_BadBook : PySem.W.kitOne K (.ref 37) (.ref 56) = some false)
    (xt_BadBatch_BadPile : PySem.W.kitOne K (.ref 37) (.ref 75) = some false)
    (xt_BadBatch_BadSlip : PySem.W.kitOne K (.ref 37) (.ref 94) = some false)
    (xt_BadBatch_BadText : PySem.W.kitOne K (.ref 37) (.ref 113) = some false)
    (xt_BadBatch_Busy : PySem.W.kitOne K (.ref 37) (.ref 125) = some false)
    (xt_BadBatch_NoAmount : PySem.W.kitOne K (.ref 37) (.ref 144) = some false)
    (xt_BadBatch_NoChoice : PySem.W.kitOne K (.ref 37) (.ref 156) = some false)
    (xt_BadBatch_NoHouse : PySem.W.kitOne K (.ref 37) (.ref 175) = some false)
    (xt_BadBatch_NoIndex : PySem.W.kitOne K (.ref 37) (.ref 194) = some false)
    (xt_BadBatch_NoRing : PySem.W.kitOne K (.ref 37) (.ref 213) = some false)
    (xt_BadBatch_NoSettlement : PySem.W.kitOne K (.ref 37) (.ref 232) = some false)
    (xt_BadBatch_NotBelow : PySem.W.kitOne K (.ref 37) (.ref 244) = some false)
    (xt_BadBatch_NothingToUndo : PySem.W.kitOne K (.ref 37) (.ref 256) = some false)
    (xt_BadBatch_NoVersion : PySem.W.kitOne K (.ref 37) (.ref 275) = some false)
    (xt_BadBatch_OtherBook : PySem.W.kitOne K (.ref 37) (.ref 287) = some false)
    (xt_BadBatch_Overdrawn : PySem.W.kitOne K (.ref 37) (.ref 306) = some false)
    (xt_BadBatch_Rejected : PySem.W.kitOne K (.ref 37) (.ref 325) = some false)
    (xt_BadBatch_TooDeep : PySem.W.kitOne K (.ref 37) (.ref 344) = some false)
    (xt_BadBatch_TooLarge : PySem.W.kitOne K (.ref 37) (.ref 363) = some false)
    (xt_BadBatch_TooMany : PySem.W.kitOne K (.ref 37) (.ref 382) = some false)
    (xt_BadBatch_TooManyEdits : PySem.W.kitOne K (.ref 37) (.ref 394) = some false)
    (xt_BadBatch_TooRich : PySem.W.kitOne K (.ref 37) (.ref 413) = some false)
    (xt_BadBatch_SlipError : PySem.W.kitOne K (.ref 37) (.ref 24) = some true)
    {nm_BadBook q_BadBook : Str} {N_BadBook I_BadBook : Addr} {bs_BadBook : List Value} {sn_BadBook : List Str} {sub_BadBook : List Value} {ab_BadBook : Bool} {col_BadBook : Option Bool} {dd_BadBook od_BadBook an_BadBook : Option Addr} {m0_BadBook m1_BadBook m2_BadBook m3_BadBook m5_BadBook : Option Value} {sl_BadBook : Array (Option Value)} {oc_BadBook dc_BadBook pm_BadBook cd_BadBook ct_BadBook : Value} {p1_BadBook p2_BadBook q1_BadBook q2_BadBook q3_BadBook q4_BadBook : Pos}
    (xl_BadBook : K.lookup 56 = some (excClassObj nm_BadBook q_BadBook 56 N_BadBook bs_BadBook [.ref 24, .type "ValueError", .type "Exception", .type "BaseException", .type "object"] true sn_BadBook sub_BadBook ab_BadBook col_BadBook dd_BadBook m0_BadBook m1_BadBook m2_BadBook m3_BadBook m5_BadBook "ValueError.__new__"))
    (xsa_BadBook : PySem.W.findIn K (.ref 56) "__setattr__" = some (some (.builtin "object.__setattr__")))
    (xga_BadBook : PySem.W.findIn K (.ref 56) "__getattribute__" = some (some (.builtin "BaseException.__getattribute__")))
    (xgg_BadBook : PySem.W.findIn K (.ref 56) "__getattr__" = some none)
    (xha_BadBook : PySem.W.findIn K (.ref 56) "__class__" = some (some (.builtin "object.__class__")))
    (xhm_BadBook : PySem.W.mroIn K 56 (.type "object") = some true)
    (xf_BadBook_error : PySem.W.findIn K (.ref 56) "error" = some none)
    (xf_BadBook_index : PySem.W.findIn K (.ref 56) "index" = some none)
    (xf_BadBook_amount : PySem.W.findIn K (.ref 56) "amount" = some none)
    (xf_BadBook_house : PySem.W.findIn K (.ref 56) "house" = some none)
    (xf_BadBook_version : PySem.W.findIn K (.ref 56) "version" = some none)
    (xf_BadBook_limit : PySem.W.findIn K (.ref 56) "limit" = some none)
    (xi_BadBook : PySem.W.findIn K (.ref 56) "__init__" = some (some (.ref I_BadBook)))
    (xit_BadBook : PySem.W.typeIn K (.ref I_BadBook) = some (.type "function"))
    (xil_BadBook : K.lookup I_BadBook = some ⟨oc_BadBook, od_BadBook, .func (PySem.W.fnOf "__init__" "BadBook.__init__" (PySem.SlipX.iA_error p1_BadBook p2_BadBook) (PySem.SlipX.iB_error q1_BadBook q2_BadBook q3_BadBook q4_BadBook) PySem.SlipX.iS_error .none .none dc_BadBook pm_BadBook an_BadBook cd_BadBook ct_BadBook), sl_BadBook⟩)
    (xic_BadBook : PySem.W.codeIn K cd_BadBook "BadBook.__init__" = true)
    (xk_BadBook : PySem.W.keepIn K (.ref 56) = true)
    (xe_BadBook : PySem.W.subIn K (.ref 56) (.type "BaseException") = some true)
    (xty_BadBook : PySem.W.typeIn K (.ref 56) = some (.type "type"))
    (xd_BadBook : PySem.W.hasDictIn K 56 = true)
    (xm_BadBook : PySem.W.subIn K (.ref 56) (.ref 24) = some true)
    (xv_BadBook : PySem.W.kitOne K (.ref 56) (.type "ValueError") = some true)
    (xt_BadBook_BadBatch : PySem.W.kitOne K (.ref 56) (.ref 37) = some false)
    (xt_BadBook_BadBook : PySem.W.kitOne K (.ref 56) (.ref 56) = some true)
    (xt_BadBook_BadPile : PySem.W.kitOne K (.ref 56) (.ref 75) = some false)
    (xt_BadBook_BadSlip : PySem.W.kitOne K (.ref 56) (.ref 94) = some false)
    (xt_BadBook_BadText : PySem.W.kitOne K (.ref 56) (.ref 113) = some false)
    (xt_BadBook_Busy : PySem.W.kitOne K (.ref 56) (.ref 125) = some false)
    (xt_BadBook_NoAmount : PySem.W.kitOne K (.ref 56) (.ref 144) = some false)
    (xt_BadBook_NoChoice : PySem.W.kitOne K (.ref 56) (.ref 156) = some false)
    (xt_BadBook_NoHouse : PySem.W.kitOne K (.ref 56) (.ref 175) = some false)
    (xt_BadBook_NoIndex : PySem.W.kitOne K (.ref 56) (.ref 194) = some false)
    (xt_BadBook_NoRing : PySem.W.kitOne K (.ref 56) (.ref 213) = some false)
    (xt_BadBook_NoSettlement : PySem.W.kitOne K (.ref 56) (.ref 232) = some false)
    (xt_BadBook_NotBelow : PySem.W.kitOne K (.ref 56) (.ref 244) = some false)
    (xt_BadBook_NothingToUndo : PySem.W.kitOne K (.ref 56) (.ref 256) = some false)
    (xt_BadBook_NoVersion : PySem.W.kitOne K (.ref 56) (.ref 275) = some false)
    (xt_BadBook_OtherBook : PySem.W.kitOne K (.ref 56) (.ref 287) = some false)
    (xt_BadBook_Overdrawn : PySem.W.kitOne K (.ref 56) (.ref 306) = some false)
    (xt_BadBook_Rejected : PySem.W.kitOne K (.ref 56) (.ref 325) = some false)
    (xt_BadBook_TooDeep : PySem.W.kitOne K (.ref 56) (.ref 344) = some false)
    (xt_BadBook_TooLarge : PySem.W.kitOne K (.ref 56) (.ref 363) = some false)
    (xt_BadBook_TooMany : PySem.W.kitOne K (.ref 56) (.ref 382) = some false)
    (xt_BadBook_TooManyEdits : PySem.W.kitOne K (.ref 56) (.ref 394) = some false)
    (xt_BadBook_TooRich : PySem.W.kitOne K (.ref 56) (.ref 413) = some false)
    (xt_BadBook_SlipError : PySem.W.kitOne K (.ref 56) (.ref 24) = some true)
    {nm_BadPile q_BadPile : Str} {N_BadPile I_BadPile : Addr} {bs_BadPile : List Value} {sn_BadPile : List Str} {sub_BadPile : List Value} {ab_BadPile : Bool} {col_BadPile : Option Bool} {dd_BadPile od_BadPile an_BadPile : Option Addr} {m0_BadPile m1_BadPile m2_BadPile m3_BadPile m5_BadPile : Option Value} {sl_BadPile : Array (Option Value)} {oc_BadPile dc_BadPile pm_BadPile cd_BadPile ct_BadPile : Value} {p1_BadPile p2_BadPile q1_BadPile q2_BadPile q3_BadPile q4_BadPile : Pos}
    (xl_BadPile : K.lookup 75 = some (excClassObj nm_BadPile q_BadPile 75 N_BadPile bs_BadPile [.ref 24, .type "ValueError", .type "Exception", .type "BaseException", .type "object"] true sn_BadPile sub_BadPile ab_BadPile col_BadPile dd_BadPile m0_BadPile m1_BadPile m2_BadPile m3_BadPile m5_BadPile "ValueError.__new__"))
    (xsa_BadPile : PySem.W.findIn K (.ref 75) "__setattr__" = some (some (.builtin "object.__setattr__")))
    (xga_BadPile : PySem.W.findIn K (.ref 75) "__getattribute__" = some (some (.builtin "BaseException.__getattribute__")))
    (xgg_BadPile : PySem.W.findIn K (.ref 75) "__getattr__" = some none)
    (xha_BadPile : PySem.W.findIn K (.ref 75) "__class__" = some (some (.builtin "object.__class__")))
    (xhm_BadPile : PySem.W.mroIn K 75 (.type "object") = some true)
    (xf_BadPile_error : PySem.W.findIn K (.ref 75) "error" = some none)
    (xf_BadPile_index : PySem.W.findIn K (.ref 75) "index" = some none)
    (xf_BadPile_amount : PySem.W.findIn K (.ref 75) "amount" = some none)
    (xf_BadPile_house : PySem.W.findIn K (.ref 75) "house" = some none)
    (xf_BadPile_version : PySem.W.findIn K (.ref 75) "version" = some none)
    (xf_BadPile_limit : PySem.W.findIn K (.ref 75) "limit" = some none)
    (xi_BadPile : PySem.W.findIn K (.ref 75) "__init__" = some (some (.ref I_BadPile)))
    (xit_BadPile : PySem.W.typeIn K (.ref I_BadPile) = some (.type "function"))
    (xil_BadPile : K.lookup I_BadPile = some ⟨oc_BadPile, od_BadPile, .func (PySem.W.fnOf "__init__" "BadPile.__init__" (PySem.SlipX.iA_error p1_BadPile p2_BadPile) (PySem.SlipX.iB_error q1_BadPile q2_BadPile q3_BadPile q4_BadPile) PySem.SlipX.iS_error .none .none dc_BadPile pm_BadPile an_BadPile cd_BadPile ct_BadPile), sl_BadPile⟩)
    (xic_BadPile : PySem.W.codeIn K cd_BadPile "BadPile.__init__" = true)
    (xk_BadPile : PySem.W.keepIn K (.ref 75) = true)
    (xe_BadPile : PySem.W.subIn K (.ref 75) (.type "BaseException") = some true)
    (xty_BadPile : PySem.W.typeIn K (.ref 75) = some (.type "type"))
    (xd_BadPile : PySem.W.hasDictIn K 75 = true)
    (xm_BadPile : PySem.W.subIn K (.ref 75) (.ref 24) = some true)
    (xv_BadPile : PySem.W.kitOne K (.ref 75) (.type "ValueError") = some true)
    (xt_BadPile_BadBatch : PySem.W.kitOne K (.ref 75) (.ref 37) = some false)
    (xt_BadPile_BadBook : PySem.W.kitOne K (.ref 75) (.ref 56) = some false)
    (xt_BadPile_BadPile : PySem.W.kitOne K (.ref 75) (.ref 75) = some true)
    (xt_BadPile_BadSlip : PySem.W.kitOne K (.ref 75) (.ref 94) = some false)
    (xt_BadPile_BadText : PySem.W.kitOne K (.ref 75) (.ref 113) = some false)
    (xt_BadPile_Busy : PySem.W.kitOne K (.ref 75) (.ref 125) = some false)
    (xt_BadPile_NoAmount : PySem.W.kitOne K (.ref 75) (.ref 144) = some false)
    (xt_BadPile_NoChoice : PySem.W.kitOne K (.ref 75) (.ref 156) = some false)
    (xt_BadPile_NoHouse : PySem.W.kitOne K (.ref 75) (.ref 175) = some false)
    (xt_BadPile_NoIndex : PySem.W.kitOne K (.ref 75) (.ref 194) = some false)
    (xt_BadPile_NoRing : PySem.W.kitOne K (.ref 75) (.ref 213) = some false)
    (xt_BadPile_NoSettlement : PySem.W.kitOne K (.ref 75) (.ref 232) = some false)
    (xt_BadPile_NotBelow : PySem.W.kitOne K (.ref 75) (.ref 244) = some false)
    (xt_BadPile_NothingToUndo : PySem.W.kitOne K (.ref 75) (.ref 256) = some false)
    (xt_BadPile_NoVersion : PySem.W.kitOne K (.ref 75) (.ref 275) = some false)
    (xt_BadPile_OtherBook : PySem.W.kitOne K (.ref 75) (.ref 287) = some false)
    (xt_BadPile_Overdrawn : PySem.W.kitOne K (.ref 75) (.ref 306) = some false)
    (xt_BadPile_Rejected : PySem.W.kitOne K (.ref 75) (.ref 325) = some false)
    (xt_BadPile_TooDeep : PySem.W.kitOne K (.ref 75) (.ref 344) = some false)
    (xt_BadPile_TooLarge : PySem.W.kitOne K (.ref 75) (.ref 363) = some false)
    (xt_BadPile_TooMany : PySem.W.kitOne K (.ref 75) (.ref 382) = some false)
    (xt_BadPile_TooManyEdits : PySem.W.kitOne K (.ref 75) (.ref 394) = some false)
    (xt_BadPile_TooRich : PySem.W.kitOne K (.ref 75) (.ref 413) = some false)
    (xt_BadPile_SlipError : PySem.W.kitOne K (.ref 75) (.ref 24) = some true)
    {nm_BadSlip q_BadSlip : Str} {N_BadSlip I_BadSlip : Addr} {bs_BadSlip : List Value} {sn_BadSlip : List Str} {sub_BadSlip : List Value} {ab_BadSlip : Bool} {col_BadSlip : Option Bool} {dd_BadSlip od_BadSlip an_BadSlip : Option Addr} {m0_BadSlip m1_BadSlip m2_BadSlip m3_BadSlip m5_BadSlip : Option Value} {sl_BadSlip : Array (Option Value)} {oc_BadSlip dc_BadSlip pm_BadSlip cd_BadSlip ct_BadSlip : Value} {p1_BadSlip p2_BadSlip q1_BadSlip q2_BadSlip q3_BadSlip q4_BadSlip : Pos}
    (xl_BadSlip : K.lookup 94 = some (excClassObj nm_BadSlip q_BadSlip 94 N_BadSlip bs_BadSlip [.ref 24, .type "ValueError", .type "Exception", .type "BaseException", .type "object"] true sn_BadSlip sub_BadSlip ab_BadSlip col_BadSlip dd_BadSlip m0_BadSlip m1_BadSlip m2_BadSlip m3_BadSlip m5_BadSlip "ValueError.__new__"))
    (xsa_BadSlip : PySem.W.findIn K (.ref 94) "__setattr__" = some (some (.builtin "object.__setattr__")))
    (xga_BadSlip : PySem.W.findIn K (.ref 94) "__getattribute__" = some (some (.builtin "BaseException.__getattribute__")))
    (xgg_BadSlip : PySem.W.findIn K (.ref 94) "__getattr__" = some none)
    (xha_BadSlip : PySem.W.findIn K (.ref 94) "__class__" = some (some (.builtin "object.__class__")))
    (xhm_BadSlip : PySem.W.mroIn K 94 (.type "object") = some true)
    (xf_BadSlip_error : PySem.W.findIn K (.ref 94) "error" = some none)
    (xf_BadSlip_index : PySem.W.findIn K (.ref 94) "index" = some none)
    (xf_BadSlip_amount : PySem.W.findIn K (.ref 94) "amount" = some none)
    (xf_BadSlip_house : PySem.W.findIn K (.ref 94) "house" = some none)
    (xf_BadSlip_version : PySem.W.findIn K (.ref 94) "version" = some none)
    (xf_BadSlip_limit : PySem.W.findIn K (.ref 94) "limit" = some none)
    (xi_BadSlip : PySem.W.findIn K (.ref 94) "__init__" = some (some (.ref I_BadSlip)))
    (xit_BadSlip : PySem.W.typeIn K (.ref I_BadSlip) = some (.type "function"))
    (xil_BadSlip : K.lookup I_BadSlip = some ⟨oc_BadSlip, od_BadSlip, .func (PySem.W.fnOf "__init__" "BadSlip.__init__" (PySem.SlipX.iA_index p1_BadSlip p2_BadSlip) (PySem.SlipX.iB_index q1_BadSlip q2_BadSlip q3_BadSlip q4_BadSlip) PySem.SlipX.iS_index .none .none dc_BadSlip pm_BadSlip an_BadSlip cd_BadSlip ct_BadSlip), sl_BadSlip⟩)
    (xic_BadSlip : PySem.W.codeIn K cd_BadSlip "BadSlip.__init__" = true)
    (xk_BadSlip : PySem.W.keepIn K (.ref 94) = true)
    (xe_BadSlip : PySem.W.subIn K (.ref 94) (.type "BaseException") = some true)
    (xty_BadSlip : PySem.W.typeIn K (.ref 94) = some (.type "type"))
    (xd_BadSlip : PySem.W.hasDictIn K 94 = true)
    (xm_BadSlip : PySem.W.subIn K (.ref 94) (.ref 24) = some true)
    (xv_BadSlip : PySem.W.kitOne K (.ref 94) (.type "ValueError") = some true)
    (xt_BadSlip_BadBatch : PySem.W.kitOne K (.ref 94) (.ref 37) = some false)
    (xt_BadSlip_BadBook : PySem.W.kitOne K (.ref 94) (.ref 56) = some false)
    (xt_BadSlip_BadPile : PySem.W.kitOne K (.ref 94) (.ref 75) = some false)
    (xt_BadSlip_BadSlip : PySem.W.kitOne K (.ref 94) (.ref 94) = some true)
    (xt_BadSlip_BadText : PySem.W.kitOne K (.ref 94) (.ref 113) = some false)
    (xt_BadSlip_Busy : PySem.W.kitOne K (.ref 94) (.ref 125) = some false)
    (xt_BadSlip_NoAmount : PySem.W.kitOne K (.ref 94) (.ref 144) = some false)
    (xt_BadSlip_NoChoice : PySem.W.kitOne K (.ref 94) (.ref 156) = some false)
    (xt_BadSlip_NoHouse : PySem.W.kitOne K (.ref 94) (.ref 175) = some false)
    (xt_BadSlip_NoIndex : PySem.W.kitOne K (.ref 94) (.ref 194) = some false)
    (xt_BadSlip_NoRing : PySem.W.kitOne K (.ref 94) (.ref 213) = some false)
    (xt_BadSlip_NoSettlement : PySem.W.kitOne K (.ref 94) (.ref 232) = some false)
    (xt_BadSlip_NotBelow : PySem.W.kitOne K (.ref 94) (.ref 244) = some false)
    (xt_BadSlip_NothingToUndo : PySem.W.kitOne K (.ref 94) (.ref 256) = some false)
    (xt_BadSlip_NoVersion : PySem.W.kitOne K (.ref 94) (.ref 275) = some false)
    (xt_BadSlip_OtherBook : PySem.W.kitOne K (.ref 94) (.ref 287) = some false)
    (xt_BadSlip_Overdrawn : PySem.W.kitOne K (.ref 94) (.ref 306) = some false)
    (xt_BadSlip_Rejected : PySem.W.kitOne K (.ref 94) (.ref 325) = some false)
    (xt_BadSlip_TooDeep : PySem.W.kitOne K (.ref 94) (.ref 344) = some false)
    (xt_BadSlip_TooLarge : PySem.W.kitOne K (.ref 94) (.ref 363) = some false)
    (xt_BadSlip_TooMany : PySem.W.kitOne K (.ref 94) (.ref 382) = some false)
    (xt_BadSlip_TooManyEdits : PySem.W.kitOne K (.ref 94) (.ref 394) = some false)
    (xt_BadSlip_TooRich : PySem.W.kitOne K (.ref 94) (.ref 413) = some false)
    (xt_BadSlip_SlipError : PySem.W.kitOne K (.ref 94) (.ref 24) = some true)
    {nm_BadText q_BadText : Str} {N_BadText I_BadText : Addr} {bs_BadText : List Value} {sn_BadText : List Str} {sub_BadText : List Value} {ab_BadText : Bool} {col_BadText : Option Bool} {dd_BadText od_BadText an_BadText : Option Addr} {m0_BadText m1_BadText m2_BadText m3_BadText m5_BadText : Option Value} {sl_BadText : Array (Option Value)} {oc_BadText dc_BadText pm_BadText cd_BadText ct_BadText : Value} {p1_BadText p2_BadText q1_BadText q2_BadText q3_BadText q4_BadText : Pos}
    (xl_BadText : K.lookup 113 = some (excClassObj nm_BadText q_BadText 113 N_BadText bs_BadText [.ref 24, .type "ValueError", .type "Exception", .type "BaseException", .type "object"] true sn_BadText sub_BadText ab_BadText col_BadText dd_BadText m0_BadText m1_BadText m2_BadText m3_BadText m5_BadText "ValueError.__new__"))
    (xsa_BadText : PySem.W.findIn K (.ref 113) "__setattr__" = some (some (.builtin "object.__setattr__")))
    (xga_BadText : PySem.W.findIn K (.ref 113) "__getattribute__" = some (some (.builtin "BaseException.__getattribute__")))
    (xgg_BadText : PySem.W.findIn K (.ref 113) "__getattr__" = some none)
    (xha_BadText : PySem.W.findIn K (.ref 113) "__class__" = some (some (.builtin "object.__class__")))
    (xhm_BadText : PySem.W.mroIn K 113 (.type "object") = some true)
    (xf_BadText_error : PySem.W.findIn K (.ref 113) "error" = some none)
    (xf_BadText_index : PySem.W.findIn K (.ref 113) "index" = some none)
    (xf_BadText_amount : PySem.W.findIn K (.ref 113) "amount" = some none)
    (xf_BadText_house : PySem.W.findIn K (.ref 113) "house" = some none)
    (xf_BadText_version : PySem.W.findIn K (.ref 113) "version" = some none)
    (xf_BadText_limit : PySem.W.findIn K (.ref 113) "limit" = some none)
    (xi_BadText : PySem.W.findIn K (.ref 113) "__init__" = some (some (.ref I_BadText)))
    (xit_BadText : PySem.W.typeIn K (.ref I_BadText) = some (.type "function"))
    (xil_BadText : K.lookup I_BadText = some ⟨oc_BadText, od_BadText, .func (PySem.W.fnOf "__init__" "BadText.__init__" (PySem.SlipX.iA_index p1_BadText p2_BadText) (PySem.SlipX.iB_index q1_BadText q2_BadText q3_BadText q4_BadText) PySem.SlipX.iS_index .none .none dc_BadText pm_BadText an_BadText cd_BadText ct_BadText), sl_BadText⟩)
    (xic_BadText : PySem.W.codeIn K cd_BadText "BadText.__init__" = true)
    (xk_BadText : PySem.W.keepIn K (.ref 113) = true)
    (xe_BadText : PySem.W.subIn K (.ref 113) (.type "BaseException") = some true)
    (xty_BadText : PySem.W.typeIn K (.ref 113) = some (.type "type"))
    (xd_BadText : PySem.W.hasDictIn K 113 = true)
    (xm_BadText : PySem.W.subIn K (.ref 113) (.ref 24) = some true)
    (xv_BadText : PySem.W.kitOne K (.ref 113) (.type "ValueError") = some true)
    (xt_BadText_BadBatch : PySem.W.kitOne K (.ref 113) (.ref 37) = some false)
    (xt_BadText_BadBook : PySem.W.kitOne K (.ref 113) (.ref 56) = some false)
    (xt_BadText_BadPile : PySem.W.kitOne K (.ref 113) (.ref 75) = some false)
    (xt_BadText_BadSlip : PySem.W.kitOne K (.ref 113) (.ref 94) = some false)
    (xt_BadText_BadText : PySem.W.kitOne K (.ref 113) (.ref 113) = some true)
    (xt_BadText_Busy : PySem.W.kitOne K (.ref 113) (.ref 125) = some false)
    (xt_BadText_NoAmount : PySem.W.kitOne K (.ref 113) (.ref 144) = some false)
    (xt_BadText_NoChoice : PySem.W.kitOne K (.ref 113) (.ref 156) = some false)
    (xt_BadText_NoHouse : PySem.W.kitOne K (.ref 113) (.ref 175) = some false)
    (xt_BadText_NoIndex : PySem.W.kitOne K (.ref 113) (.ref 194) = some false)
    (xt_BadText_NoRing : PySem.W.kitOne K (.ref 113) (.ref 213) = some false)
    (xt_BadText_NoSettlement : PySem.W.kitOne K (.ref 113) (.ref 232) = some false)
    (xt_BadText_NotBelow : PySem.W.kitOne K (.ref 113) (.ref 244) = some false)
    (xt_BadText_NothingToUndo : PySem.W.kitOne K (.ref 113) (.ref 256) = some false)
    (xt_BadText_NoVersion : PySem.W.kitOne K (.ref 113) (.ref 275) = some false)
    (xt_BadText_OtherBook : PySem.W.kitOne K (.ref 113) (.ref 287) = some false)
    (xt_BadText_Overdrawn : PySem.W.kitOne K (.ref 113) (.ref 306) = some false)
    (xt_BadText_Rejected : PySem.W.kitOne K (.ref 113) (.ref 325) = some false)
    (xt_BadText_TooDeep : PySem.W.kitOne K (.ref 113) (.ref 344) = some false)
    (xt_BadText_TooLarge : PySem.W.kitOne K (.ref 113) (.ref 363) = some false)
    (xt_BadText_TooMany : PySem.W.kitOne K (.ref 113) (.ref 382) = some false)
    (xt_BadText_TooManyEdits : PySem.W.kitOne K (.ref 113) (.ref 394) = some false)
    (xt_BadText_TooRich : PySem.W.kitOne K (.ref 113) (.ref 413) = some false)
    (xt_BadText_SlipError : PySem.W.kitOne K (.ref 113) (.ref 24) = some true)
    (xq_Busy : PySem.W.excIn K 125 [.type "ValueError", .type "Exception", .type "BaseException", .type "object"] "ValueError.__new__" = true)
    (xga_Busy : PySem.W.findIn K (.ref 125) "__getattribute__" = some (some (.builtin "BaseException.__getattribute__")))
    (xgg_Busy : PySem.W.findIn K (.ref 125) "__getattr__" = some none)
    (xha_Busy : PySem.W.findIn K (.ref 125) "__class__" = some (some (.builtin "object.__class__")))
    (xhm_Busy : PySem.W.mroIn K 125 (.type "object") = some true)
    (xf_Busy_error : PySem.W.findIn K (.ref 125) "error" = some none)
    (xf_Busy_index : PySem.W.findIn K (.ref 125) "index" = some none)
    (xf_Busy_amount : PySem.W.findIn K (.ref 125) "amount" = some none)
    (xf_Busy_house : PySem.W.findIn K (.ref 125) "house" = some none)
    (xf_Busy_version : PySem.W.findIn K (.ref 125) "version" = some none)
    (xf_Busy_limit : PySem.W.findIn K (.ref 125) "limit" = some none)
    (xk_Busy : PySem.W.keepIn K (.ref 125) = true)
    (xe_Busy : PySem.W.subIn K (.ref 125) (.type "BaseException") = some true)
    (xty_Busy : PySem.W.typeIn K (.ref 125) = some (.type "type"))
    (xd_Busy : PySem.W.hasDictIn K 125 = true)
    (xm_Busy : PySem.W.subIn K (.ref 125) (.ref 24) = some true)
    (xv_Busy : PySem.W.kitOne K (.ref 125) (.type "ValueError") = some true)
    (xt_Busy_BadBatch : PySem.W.kitOne K (.ref 125) (.ref 37) = some false)
    (xt_Busy_BadBook : PySem.W.kitOne K (.ref 125) (.ref 56) = some false)
    (xt_Busy_BadPile : PySem.W.kitOne K (.ref 125) (.ref 75) = some false)
    (xt_Busy_BadSlip : PySem.W.kitOne K (.ref 125) (.ref 94) = some false)
    (xt_Busy_BadText : PySem.W.kitOne K (.ref 125) (.ref 113) = some false)
    (xt_Busy_Busy : PySem.W.kitOne K (.ref 125) (.ref 125) = some true)
    (xt_Busy_NoAmount : PySem.W.kitOne K (.ref 125) (.ref 144) = some false)
    (xt_Busy_NoChoice : PySem.W.kitOne K (.ref 125) (.ref 156) = some false)
    (xt_Busy_NoHouse : PySem.W.kitOne K (.ref 125) (.ref 175) = some false)
    (xt_Busy_NoIndex : PySem.W.kitOne K (.ref 125) (.ref 194) = some false)
    (xt_Busy_NoRing : PySem.W.kitOne K (.ref 125) (.ref 213) = some false)
    (xt_Busy_NoSettlement : PySem.W.kitOne K (.ref 125) (.ref 232) = some false)
    (xt_Busy_NotBelow : PySem.W.kitOne K (.ref 125) (.ref 244) = some false)
    (xt_Busy_NothingToUndo : PySem.W.kitOne K (.ref 125) (.ref 256) = some false)
    (xt_Busy_NoVersion : PySem.W.kitOne K (.ref 125) (.ref 275) = some false)
    (xt_Busy_OtherBook : PySem.W.kitOne K (.ref 125) (.ref 287) = some false)
    (xt_Busy_Overdrawn : PySem.W.kitOne K (.ref 125) (.ref 306) = some false)
    (xt_Busy_Rejected : PySem.W.kitOne K (.ref 125) (.ref 325) = some false)
    (xt_Busy_TooDeep : PySem.W.kitOne K (.ref 125) (.ref 344) = some false)
    (xt_Busy_TooLarge : PySem.W.kitOne K (.ref 125) (.ref 363) = some false)
    (xt_Busy_TooMany : PySem.W.kitOne K (.ref 125) (.ref 382) = some false)
    (xt_Busy_TooManyEdits : PySem.W.kitOne K (.ref 125) (.ref 394) = some false)
    (xt_Busy_TooRich : PySem.W.kitOne K (.ref 125) (.ref 413) = some false)
    (xt_Busy_SlipError : PySem.W.kitOne K (.ref 125) (.ref 24) = some true)
    {nm_NoAmount q_NoAmount : Str} {N_NoAmount I_NoAmount : Addr} {bs_NoAmount : List Value} {sn_NoAmount : List Str} {sub_NoAmount : List Value} {ab_NoAmount : Bool} {col_NoAmount : Option Bool} {dd_NoAmount od_NoAmount an_NoAmount : Option Addr} {m0_NoAmount m1_NoAmount m2_NoAmount m3_NoAmount m5_NoAmount : Option Value} {sl_NoAmount : Array (Option Value)} {oc_NoAmount dc_NoAmount pm_NoAmount cd_NoAmount ct_NoAmount : Value} {p1_NoAmount p2_NoAmount q1_NoAmount q2_NoAmount q3_NoAmount q4_NoAmount : Pos}
    (xl_NoAmount : K.lookup 144 = some (excClassObj nm_NoAmount q_NoAmount 144 N_NoAmount bs_NoAmount [.ref 24, .type "ValueError", .type "Exception", .type "BaseException", .type "object"] true sn_NoAmount sub_NoAmount ab_NoAmount col_NoAmount dd_NoAmount m0_NoAmount m1_NoAmount m2_NoAmount m3_NoAmount m5_NoAmount "ValueError.__new__"))
    (xsa_NoAmount : PySem.W.findIn K (.ref 144) "__setattr__" = some (some (.builtin "object.__setattr__")))
    (xga_NoAmount : PySem.W.findIn K (.ref 144) "__getattribute__" = some (some (.builtin "BaseException.__getattribute__")))
    (xgg_NoAmount : PySem.W.findIn K (.ref 144) "__getattr__" = some none)
    (xha_NoAmount : PySem.W.findIn K (.ref 144) "__class__" = some (some (.builtin "object.__class__")))
    (xhm_NoAmount : PySem.W.mroIn K 144 (.type "object") = some true)
    (xf_NoAmount_error : PySem.W.findIn K (.ref 144) "error" = some none)
    (xf_NoAmount_index : PySem.W.findIn K (.ref 144) "index" = some none)
    (xf_NoAmount_amount : PySem.W.findIn K (.ref 144) "amount" = some none)
    (xf_NoAmount_house : PySem.W.findIn K (.ref 144) "house" = some none)
    (xf_NoAmount_version : PySem.W.findIn K (.ref 144) "version" = some none)
    (xf_NoAmount_limit : PySem.W.findIn K (.ref 144) "limit" = some none)
    (xi_NoAmount : PySem.W.findIn K (.ref 144) "__init__" = some (some (.ref I_NoAmount)))
    (xit_NoAmount : PySem.W.typeIn K (.ref I_NoAmount) = some (.type "function"))
    (xil_NoAmount : K.lookup I_NoAmount = some ⟨oc_NoAmount, od_NoAmount, .func (PySem.W.fnOf "__init__" "NoAmount.__init__" (PySem.SlipX.iA_amount p1_NoAmount p2_NoAmount) (PySem.SlipX.iB_amount q1_NoAmount q2_NoAmount q3_NoAmount q4_NoAmount) PySem.SlipX.iS_amount .none .none dc_NoAmount pm_NoAmount an_NoAmount cd_NoAmount ct_NoAmount), sl_NoAmount⟩)
    (xic_NoAmount : PySem.W.codeIn K cd_NoAmount "NoAmount.__init__" = true)
    (xk_NoAmount : PySem.W.keepIn K (.ref 144) = true)
    (xe_NoAmount : PySem.W.subIn K (.ref 144) (.type "BaseException") = some true)
    (xty_NoAmount : PySem.W.typeIn K (.ref 144) = some (.type "type"))
    (xd_NoAmount : PySem.W.hasDictIn K 144 = true)
    (xm_NoAmount : PySem.W.subIn K (.ref 144) (.ref 24) = some true)
    (xv_NoAmount : PySem.W.kitOne K (.ref 144) (.type "ValueError") = some true)
    (xt_NoAmount_BadBatch : PySem.W.kitOne K (.ref 144) (.ref 37) = some false)
    (xt_NoAmount_BadBook : PySem.W.kitOne K (.ref 144) (.ref 56) = some false)
    (xt_NoAmount_BadPile : PySem.W.kitOne K (.ref 144) (.ref 75) = some false)
    (xt_NoAmount_BadSlip : PySem.W.kitOne K (.ref 144) (.ref 94) = some false)
    (xt_NoAmount_BadText : PySem.W.kitOne K (.ref 144) (.ref 113) = some false)
    (xt_NoAmount_Busy : PySem.W.kitOne K (.ref 144) (.ref 125) = some false)
    (xt_NoAmount_NoAmount : PySem.W.kitOne K (.ref 144) (.ref 144) = some true)
    (xt_NoAmount_NoChoice : PySem.W.kitOne K (.ref 144) (.ref 156) = some false)
    (xt_NoAmount_NoHouse : PySem.W.kitOne K (.ref 144) (.ref 175) = some false)
    (xt_NoAmount_NoIndex : PySem.W.kitOne K (.ref 144) (.ref 194) = some false)
    (xt_NoAmount_NoRing : PySem.W.kitOne K (.ref 144) (.ref 213) = some false)
    (xt_NoAmount_NoSettlement : PySem.W.kitOne K (.ref 144) (.ref 232) = some false)
    (xt_NoAmount_NotBelow : PySem.W.kitOne K (.ref 144) (.ref 244) = some false)
    (xt_NoAmount_NothingToUndo : PySem.W.kitOne K (.ref 144) (.ref 256) = some false)
    (xt_NoAmount_NoVersion : PySem.W.kitOne K (.ref 144) (.ref 275) = some false)
    (xt_NoAmount_OtherBook : PySem.W.kitOne K (.ref 144) (.ref 287) = some false)
    (xt_NoAmount_Overdrawn : PySem.W.kitOne K (.ref 144) (.ref 306) = some false)
    (xt_NoAmount_Rejected : PySem.W.kitOne K (.ref 144) (.ref 325) = some false)
    (xt_NoAmount_TooDeep : PySem.W.kitOne K (.ref 144) (.ref 344) = some false)
    (xt_NoAmount_TooLarge : PySem.W.kitOne K (.ref 144) (.ref 363) = some false)
    (xt_NoAmount_TooMany : PySem.W.kitOne K (.ref 144) (.ref 382) = some false)
    (xt_NoAmount_TooManyEdits : PySem.W.kitOne K (.ref 144) (.ref 394) = some false)
    (xt_NoAmount_TooRich : PySem.W.kitOne K (.ref 144) (.ref 413) = some false)
    (xt_NoAmount_SlipError : PySem.W.kitOne K (.ref 144) (.ref 24) = some true)
    (xq_NoChoice : PySem.W.excIn K 156 [.type "ValueError", .type "Exception", .type "BaseException", .type "object"] "ValueError.__new__" = true)
    (xga_NoChoice : PySem.W.findIn K (.ref 156) "__getattribute__" = some (some (.builtin "BaseException.__getattribute__")))
    (xgg_NoChoice : PySem.W.findIn K (.ref 156) "__getattr__" = some none)
    (xha_NoChoice : PySem.W.findIn K (.ref 156) "__class__" = some (some (.builtin "object.__class__")))
    (xhm_NoChoice : PySem.W.mroIn K 156 (.type "object") = some true)
    (xf_NoChoice_error : PySem.W.findIn K (.ref 156) "error" = some none)
    (xf_NoChoice_index : PySem.W.findIn K (.ref 156) "index" = some none)
    (xf_NoChoice_amount : PySem.W.findIn K (.ref 156) "amount" = some none)
    (xf_NoChoice_house : PySem.W.findIn K (.ref 156) "house" = some none)
    (xf_NoChoice_version : PySem.W.findIn K (.ref 156) "version" = some none)
    (xf_NoChoice_limit : PySem.W.findIn K (.ref 156) "limit" = some none)
    (xk_NoChoice : PySem.W.keepIn K (.ref 156) = true)
    (xe_NoChoice : PySem.W.subIn K (.ref 156) (.type "BaseException") = some true)
    (xty_NoChoice : PySem.W.typeIn K (.ref 156) = some (.type "type"))
    (xd_NoChoice : PySem.W.hasDictIn K 156 = true)
    (xm_NoChoice : PySem.W.subIn K (.ref 156) (.ref 24) = some true)
    (xv_NoChoice : PySem.W.kitOne K (.ref 156) (.type "ValueError") = some true)
    (xt_NoChoice_BadBatch : PySem.W.kitOne K (.ref 156) (.ref 37) = some false)
    (xt_NoChoice_BadBook : PySem.W.kitOne K (.ref 156) (.ref 56) = some false)
    (xt_NoChoice_BadPile : PySem.W.kitOne K (.ref 156) (.ref 75) = some false)
    (xt_NoChoice_BadSlip : PySem.W.kitOne K (.ref 156) (.ref 94) = some false)
    (xt_NoChoice_BadText : PySem.W.kitOne K (.ref 156) (.ref 113) = some false)
    (xt_NoChoice_Busy : PySem.W.kitOne K (.ref 156) (.ref 125) = some false)
    (xt_NoChoice_NoAmount : PySem.W.kitOne K (.ref 156) (.ref 144) = some false)
    (xt_NoChoice_NoChoice : PySem.W.kitOne K (.ref 156) (.ref 156) = some true)
    (xt_NoChoice_NoHouse : PySem.W.kitOne K (.ref 156) (.ref 175) = some false)
    (xt_NoChoice_NoIndex : PySem.W.kitOne K (.ref 156) (.ref 194) = some false)
    (xt_NoChoice_NoRing : PySem.W.kitOne K (.ref 156) (.ref 213) = some false)
    (xt_NoChoice_NoSettlement : PySem.W.kitOne K (.ref 156) (.ref 232) = some false)
    (xt_NoChoice_NotBelow : PySem.W.kitOne K (.ref 156) (.ref 244) = some false)
    (xt_NoChoice_NothingToUndo : PySem.W.kitOne K (.ref 156) (.ref 256) = some false)
    (xt_NoChoice_NoVersion : PySem.W.kitOne K (.ref 156) (.ref 275) = some false)
    (xt_NoChoice_OtherBook : PySem.W.kitOne K (.ref 156) (.ref 287) = some false)
    (xt_NoChoice_Overdrawn : PySem.W.kitOne K (.ref 156) (.ref 306) = some false)
    (xt_NoChoice_Rejected : PySem.W.kitOne K (.ref 156) (.ref 325) = some false)
    (xt_NoChoice_TooDeep : PySem.W.kitOne K (.ref 156) (.ref 344) = some false)
    (xt_NoChoice_TooLarge : PySem.W.kitOne K (.ref 156) (.ref 363) = some false)
    (xt_NoChoice_TooMany : PySem.W.kitOne K (.ref 156) (.ref 382) = some false)
    (xt_NoChoice_TooManyEdits : PySem.W.kitOne K (.ref 156) (.ref 394) = some false)
    (xt_NoChoice_TooRich : PySem.W.kitOne K (.ref 156) (.ref 413) = some false)
    (xt_NoChoice_SlipError : PySem.W.kitOne K (.ref 156) (.ref 24) = some true)
    {nm_NoHouse q_NoHouse : Str} {N_NoHouse I_NoHouse : Addr} {bs_NoHouse : List Value} {sn_NoHouse : List Str} {sub_NoHouse : List Value} {ab_NoHouse : Bool} {col_NoHouse : Option Bool} {dd_NoHouse od_NoHouse an_NoHouse : Option Addr} {m0_NoHouse m1_NoHouse m2_NoHouse m3_NoHouse m5_NoHouse : Option Value} {sl_NoHouse : Array (Option Value)} {oc_NoHouse dc_NoHouse pm_NoHouse cd_NoHouse ct_NoHouse : Value} {p1_NoHouse p2_NoHouse q1_NoHouse q2_NoHouse q3_NoHouse q4_NoHouse : Pos}
    (xl_NoHouse : K.lookup 175 = some (excClassObj nm_NoHouse q_NoHouse 175 N_NoHouse bs_NoHouse [.ref 24, .type "ValueError", .type "Exception", .type "BaseException", .type "object"] true sn_NoHouse sub_NoHouse ab_NoHouse col_NoHouse dd_NoHouse m0_NoHouse m1_NoHouse m2_NoHouse m3_NoHouse m5_NoHouse "ValueError.__new__"))
    (xsa_NoHouse : PySem.W.findIn K (.ref 175) "__setattr__" = some (some (.builtin "object.__setattr__")))
    (xga_NoHouse : PySem.W.findIn K (.ref 175) "__getattribute__" = some (some (.builtin "BaseException.__getattribute__")))
    (xgg_NoHouse : PySem.W.findIn K (.ref 175) "__getattr__" = some none)
    (xha_NoHouse : PySem.W.findIn K (.ref 175) "__class__" = some (some (.builtin "object.__class__")))
    (xhm_NoHouse : PySem.W.mroIn K 175 (.type "object") = some true)
    (xf_NoHouse_error : PySem.W.findIn K (.ref 175) "error" = some none)
    (xf_NoHouse_index : PySem.W.findIn K (.ref 175) "index" = some none)
    (xf_NoHouse_amount : PySem.W.findIn K (.ref 175) "amount" = some none)
    (xf_NoHouse_house : PySem.W.findIn K (.ref 175) "house" = some none)
    (xf_NoHouse_version : PySem.W.findIn K (.ref 175) "version" = some none)
    (xf_NoHouse_limit : PySem.W.findIn K (.ref 175) "limit" = some none)
    (xi_NoHouse : PySem.W.findIn K (.ref 175) "__init__" = some (some (.ref I_NoHouse)))
    (xit_NoHouse : PySem.W.typeIn K (.ref I_NoHouse) = some (.type "function"))
    (xil_NoHouse : K.lookup I_NoHouse = some ⟨oc_NoHouse, od_NoHouse, .func (PySem.W.fnOf "__init__" "NoHouse.__init__" (PySem.SlipX.iA_house p1_NoHouse p2_NoHouse) (PySem.SlipX.iB_house q1_NoHouse q2_NoHouse q3_NoHouse q4_NoHouse) PySem.SlipX.iS_house .none .none dc_NoHouse pm_NoHouse an_NoHouse cd_NoHouse ct_NoHouse), sl_NoHouse⟩)
    (xic_NoHouse : PySem.W.codeIn K cd_NoHouse "NoHouse.__init__" = true)
    (xk_NoHouse : PySem.W.keepIn K (.ref 175) = true)
    (xe_NoHouse : PySem.W.subIn K (.ref 175) (.type "BaseException") = some true)
    (xty_NoHouse : PySem.W.typeIn K (.ref 175) = some (.type "type"))
    (xd_NoHouse : PySem.W.hasDictIn K 175 = true)
    (xm_NoHouse : PySem.W.subIn K (.ref 175) (.ref 24) = some true)
    (xv_NoHouse : PySem.W.kitOne K (.ref 175) (.type "ValueError") = some true)
    (xt_NoHouse_BadBatch : PySem.W.kitOne K (.ref 175) (.ref 37) = some false)
    (xt_NoHouse_BadBook : PySem.W.kitOne K (.ref 175) (.ref 56) = some false)
    (xt_NoHouse_BadPile : PySem.W.kitOne K (.ref 175) (.ref 75) = some false)
    (xt_NoHouse_BadSlip : PySem.W.kitOne K (.ref 175) (.ref 94) = some false)
    (xt_NoHouse_BadText : PySem.W.kitOne K (.ref 175) (.ref 113) = some false)
    (xt_NoHouse_Busy : PySem.W.kitOne K (.ref 175) (.ref 125) = some false)
    (xt_NoHouse_NoAmount : PySem.W.kitOne K (.ref 175) (.ref 144) = some false)
    (xt_NoHouse_NoChoice : PySem.W.kitOne K (.ref 175) (.ref 156) = some false)
    (xt_NoHouse_NoHouse : PySem.W.kitOne K (.ref 175) (.ref 175) = some true)
    (xt_NoHouse_NoIndex : PySem.W.kitOne K (.ref 175) (.ref 194) = some false)
    (xt_NoHouse_NoRing : PySem.W.kitOne K (.ref 175) (.ref 213) = some false)
    (xt_NoHouse_NoSettlement : PySem.W.kitOne K (.ref 175) (.ref 232) = some false)
    (xt_NoHouse_NotBelow : PySem.W.kitOne K (.ref 175) (.ref 244) = some false)
    (xt_NoHouse_NothingToUndo : PySem.W.kitOne K (.ref 175) (.ref 256) = some false)
    (xt_NoHouse_NoVersion : PySem.W.kitOne K (.ref 175) (.ref 275) = some false)
    (xt_NoHouse_OtherBook : PySem.W.kitOne K (.ref 175) (.ref 287) = some false)
    (xt_NoHouse_Overdrawn : PySem.W.kitOne K (.ref 175) (.ref 306) = some false)
    (xt_NoHouse_Rejected : PySem.W.kitOne K (.ref 175) (.ref 325) = some false)
    (xt_NoHouse_TooDeep : PySem.W.kitOne K (.ref 175) (.ref 344) = some false)
    (xt_NoHouse_TooLarge : PySem.W.kitOne K (.ref 175) (.ref 363) = some false)
    (xt_NoHouse_TooMany : PySem.W.kitOne K (.ref 175) (.ref 382) = some false)
    (xt_NoHouse_TooManyEdits : PySem.W.kitOne K (.ref 175) (.ref 394) = some false)
    (xt_NoHouse_TooRich : PySem.W.kitOne K (.ref 175) (.ref 413) = some false)
    (xt_NoHouse_SlipError : PySem.W.kitOne K (.ref 175) (.ref 24) = some true)
    {nm_NoIndex q_NoIndex : Str} {N_NoIndex I_NoIndex : Addr} {bs_NoIndex : List Value} {sn_NoIndex : List Str} {sub_NoIndex : List Value} {ab_NoIndex : Bool} {col_NoIndex : Option Bool} {dd_NoIndex od_NoIndex an_NoIndex : Option Addr} {m0_NoIndex m1_NoIndex m2_NoIndex m3_NoIndex m5_NoIndex : Option Value} {sl_NoIndex : Array (Option Value)} {oc_NoIndex dc_NoIndex pm_NoIndex cd_NoIndex ct_NoIndex : Value} {p1_NoIndex p2_NoIndex q1_NoIndex q2_NoIndex q3_NoIndex q4_NoIndex : Pos}
    (xl_NoIndex : K.lookup 194 = some (excClassObj nm_NoIndex q_NoIndex 194 N_NoIndex bs_NoIndex [.ref 24, .type "ValueError", .type "Exception", .type "BaseException", .type "object"] true sn_NoIndex sub_NoIndex ab_NoIndex col_NoIndex dd_NoIndex m0_NoIndex m1_NoIndex m2_NoIndex m3_NoIndex m5_NoIndex "ValueError.__new__"))
    (xsa_NoIndex : PySem.W.findIn K (.ref 194) "__setattr__" = some (some (.builtin "object.__setattr__")))
    (xga_NoIndex : PySem.W.findIn K (.ref 194) "__getattribute__" = some (some (.builtin "BaseException.__getattribute__")))
    (xgg_NoIndex : PySem.W.findIn K (.ref 194) "__getattr__" = some none)
    (xha_NoIndex : PySem.W.findIn K (.ref 194) "__class__" = some (some (.builtin "object.__class__")))
    (xhm_NoIndex : PySem.W.mroIn K 194 (.type "object") = some true)
    (xf_NoIndex_error : PySem.W.findIn K (.ref 194) "error" = some none)
    (xf_NoIndex_index : PySem.W.findIn K (.ref 194) "index" = some none)
    (xf_NoIndex_amount : PySem.W.findIn K (.ref 194) "amount" = some none)
    (xf_NoIndex_house : PySem.W.findIn K (.ref 194) "house" = some none)
    (xf_NoIndex_version : PySem.W.findIn K (.ref 194) "version" = some none)
    (xf_NoIndex_limit : PySem.W.findIn K (.ref 194) "limit" = some none)
    (xi_NoIndex : PySem.W.findIn K (.ref 194) "__init__" = some (some (.ref I_NoIndex)))
    (xit_NoIndex : PySem.W.typeIn K (.ref I_NoIndex) = some (.type "function"))
    (xil_NoIndex : K.lookup I_NoIndex = some ⟨oc_NoIndex, od_NoIndex, .func (PySem.W.fnOf "__init__" "NoIndex.__init__" (PySem.SlipX.iA_index p1_NoIndex p2_NoIndex) (PySem.SlipX.iB_index q1_NoIndex q2_NoIndex q3_NoIndex q4_NoIndex) PySem.SlipX.iS_index .none .none dc_NoIndex pm_NoIndex an_NoIndex cd_NoIndex ct_NoIndex), sl_NoIndex⟩)
    (xic_NoIndex : PySem.W.codeIn K cd_NoIndex "NoIndex.__init__" = true)
    (xk_NoIndex : PySem.W.keepIn K (.ref 194) = true)
    (xe_NoIndex : PySem.W.subIn K (.ref 194) (.type "BaseException") = some true)
    (xty_NoIndex : PySem.W.typeIn K (.ref 194) = some (.type "type"))
    (xd_NoIndex : PySem.W.hasDictIn K 194 = true)
    (xm_NoIndex : PySem.W.subIn K (.ref 194) (.ref 24) = some true)
    (xv_NoIndex : PySem.W.kitOne K (.ref 194) (.type "ValueError") = some true)
    (xt_NoIndex_BadBatch : PySem.W.kitOne K (.ref 194) (.ref 37) = some false)
    (xt_NoIndex_BadBook : PySem.W.kitOne K (.ref 194) (.ref 56) = some false)
    (xt_NoIndex_BadPile : PySem.W.kitOne K (.ref 194) (.ref 75) = some false)
    (xt_NoIndex_BadSlip : PySem.W.kitOne K (.ref 194) (.ref 94) = some false)
    (xt_NoIndex_BadText : PySem.W.kitOne K (.ref 194) (.ref 113) = some false)
    (xt_NoIndex_Busy : PySem.W.kitOne K (.ref 194) (.ref 125) = some false)
    (xt_NoIndex_NoAmount : PySem.W.kitOne K (.ref 194) (.ref 144) = some false)
    (xt_NoIndex_NoChoice : PySem.W.kitOne K (.ref 194) (.ref 156) = some false)
    (xt_NoIndex_NoHouse : PySem.W.kitOne K (.ref 194) (.ref 175) = some false)
    (xt_NoIndex_NoIndex : PySem.W.kitOne K (.ref 194) (.ref 194) = some true)
    (xt_NoIndex_NoRing : PySem.W.kitOne K (.ref 194) (.ref 213) = some false)
    (xt_NoIndex_NoSettlement : PySem.W.kitOne K (.ref 194) (.ref 232) = some false)
    (xt_NoIndex_NotBelow : PySem.W.kitOne K (.ref 194) (.ref 244) = some false)
    (xt_NoIndex_NothingToUndo : PySem.W.kitOne K (.ref 194) (.ref 256) = some false)
    (xt_NoIndex_NoVersion : PySem.W.kitOne K (.ref 194) (.ref 275) = some false)
    (xt_NoIndex_OtherBook : PySem.W.kitOne K (.ref 194) (.ref 287) = some false)
    (xt_NoIndex_Overdrawn : PySem.W.kitOne K (.ref 194) (.ref 306) = some false)
    (xt_NoIndex_Rejected : PySem.W.kitOne K (.ref 194) (.ref 325) = some false)
    (xt_NoIndex_TooDeep : PySem.W.kitOne K (.ref 194) (.ref 344) = some false)
    (xt_NoIndex_TooLarge : PySem.W.kitOne K (.ref 194) (.ref 363) = some false)
    (xt_NoIndex_TooMany : PySem.W.kitOne K (.ref 194) (.ref 382) = some false)
    (xt_NoIndex_TooManyEdits : PySem.W.kitOne K (.ref 194) (.ref 394) = some false)
    (xt_NoIndex_TooRich : PySem.W.kitOne K (.ref 194) (.ref 413) = some false)
    (xt_NoIndex_SlipError : PySem.W.kitOne K (.ref 194) (.ref 24) = some true)
    {nm_NoRing q_NoRing : Str} {N_NoRing I_NoRing : Addr} {bs_NoRing : List Value} {sn_NoRing : List Str} {sub_NoRing : List Value} {ab_NoRing : Bool} {col_NoRing : Option Bool} {dd_NoRing od_NoRing an_NoRing : Option Addr} {m0_NoRing m1_NoRing m2_NoRing m3_NoRing m5_NoRing : Option Value} {sl_NoRing : Array (Option Value)} {oc_NoRing dc_NoRing pm_NoRing cd_NoRing ct_NoRing : Value} {p1_NoRing p2_NoRing q1_NoRing q2_NoRing q3_NoRing q4_NoRing : Pos}
    (xl_NoRing : K.lookup 213 = some (excClassObj nm_NoRing q_NoRing 213 N_NoRing bs_NoRing [.ref 24, .type "ValueError", .type "Exception", .type "BaseException", .type "object"] true sn_NoRing sub_NoRing ab_NoRing col_NoRing dd_NoRing m0_NoRing m1_NoRing m2_NoRing m3_NoRing m5_NoRing "ValueError.__new__"))
    (xsa_NoRing : PySem.W.findIn K (.ref 213) "__setattr__" = some (some (.builtin "object.__setattr__")))
    (xga_NoRing : PySem.W.findIn K (.ref 213) "__getattribute__" = some (some (.builtin "BaseException.__getattribute__")))
    (xgg_NoRing : PySem.W.findIn K (.ref 213) "__getattr__" = some none)
    (xha_NoRing : PySem.W.findIn K (.ref 213) "__class__" = some (some (.builtin "object.__class__")))
    (xhm_NoRing : PySem.W.mroIn K 213 (.type "object") = some true)
    (xf_NoRing_error : PySem.W.findIn K (.ref 213) "error" = some none)
    (xf_NoRing_index : PySem.W.findIn K (.ref 213) "index" = some none)
    (xf_NoRing_amount : PySem.W.findIn K (.ref 213) "amount" = some none)
    (xf_NoRing_house : PySem.W.findIn K (.ref 213) "house" = some none)
    (xf_NoRing_version : PySem.W.findIn K (.ref 213) "version" = some none)
    (xf_NoRing_limit : PySem.W.findIn K (.ref 213) "limit" = some none)
    (xi_NoRing : PySem.W.findIn K (.ref 213) "__init__" = some (some (.ref I_NoRing)))
    (xit_NoRing : PySem.W.typeIn K (.ref I_NoRing) = some (.type "function"))
    (xil_NoRing : K.lookup I_NoRing = some ⟨oc_NoRing, od_NoRing, .func (PySem.W.fnOf "__init__" "NoRing.__init__" (PySem.SlipX.iA_house p1_NoRing p2_NoRing) (PySem.SlipX.iB_house q1_NoRing q2_NoRing q3_NoRing q4_NoRing) PySem.SlipX.iS_house .none .none dc_NoRing pm_NoRing an_NoRing cd_NoRing ct_NoRing), sl_NoRing⟩)
    (xic_NoRing : PySem.W.codeIn K cd_NoRing "NoRing.__init__" = true)
    (xk_NoRing : PySem.W.keepIn K (.ref 213) = true)
    (xe_NoRing : PySem.W.subIn K (.ref 213) (.type "BaseException") = some true)
    (xty_NoRing : PySem.W.typeIn K (.ref 213) = some (.type "type"))
    (xd_NoRing : PySem.W.hasDictIn K 213 = true)
    (xm_NoRing : PySem.W.subIn K (.ref 213) (.ref 24) = some true)
    (xv_NoRing : PySem.W.kitOne K (.ref 213) (.type "ValueError") = some true)
    (xt_NoRing_BadBatch : PySem.W.kitOne K (.ref 213) (.ref 37) = some false)
    (xt_NoRing_BadBook : PySem.W.kitOne K (.ref 213) (.ref 56) = some false)
    (xt_NoRing_BadPile : PySem.W.kitOne K (.ref 213) (.ref 75) = some false)
    (xt_NoRing_BadSlip : PySem.W.kitOne K (.ref 213) (.ref 94) = some false)
    (xt_NoRing_BadText : PySem.W.kitOne K (.ref 213) (.ref 113) = some false)
    (xt_NoRing_Busy : PySem.W.kitOne K (.ref 213) (.ref 125) = some false)
    (xt_NoRing_NoAmount : PySem.W.kitOne K (.ref 213) (.ref 144) = some false)
    (xt_NoRing_NoChoice : PySem.W.kitOne K (.ref 213) (.ref 156) = some false)
    (xt_NoRing_NoHouse : PySem.W.kitOne K (.ref 213) (.ref 175) = some false)
    (xt_NoRing_NoIndex : PySem.W.kitOne K (.ref 213) (.ref 194) = some false)
    (xt_NoRing_NoRing : PySem.W.kitOne K (.ref 213) (.ref 213) = some true)
    (xt_NoRing_NoSettlement : PySem.W.kitOne K (.ref 213) (.ref 232) = some false)
    (xt_NoRing_NotBelow : PySem.W.kitOne K (.ref 213) (.ref 244) = some false)
    (xt_NoRing_NothingToUndo : PySem.W.kitOne K (.ref 213) (.ref 256) = some false)
    (xt_NoRing_NoVersion : PySem.W.kitOne K (.ref 213) (.ref 275) = some false)
    (xt_NoRing_OtherBook : PySem.W.kitOne K (.ref 213) (.ref 287) = some false)
    (xt_NoRing_Overdrawn : PySem.W.kitOne K (.ref 213) (.ref 306) = some false)
    (xt_NoRing_Rejected : PySem.W.kitOne K (.ref 213) (.ref 325) = some false)
    (xt_NoRing_TooDeep : PySem.W.kitOne K (.ref 213) (.ref 344) = some false)
    (xt_NoRing_TooLarge : PySem.W.kitOne K (.ref 213) (.ref 363) = some false)
    (xt_NoRing_TooMany : PySem.W.kitOne K (.ref 213) (.ref 382) = some false)
    (xt_NoRing_TooManyEdits : PySem.W.kitOne K (.ref 213) (.ref 394) = some false)
    (xt_NoRing_TooRich : PySem.W.kitOne K (.ref 213) (.ref 413) = some false)
    (xt_NoRing_SlipError : PySem.W.kitOne K (.ref 213) (.ref 24) = some true)
    {nm_NoSettlement q_NoSettlement : Str} {N_NoSettlement I_NoSettlement : Addr} {bs_NoSettlement : List Value} {sn_NoSettlement : List Str} {sub_NoSettlement : List Value} {ab_NoSettlement : Bool} {col_NoSettlement : Option Bool} {dd_NoSettlement od_NoSettlement an_NoSettlement : Option Addr} {m0_NoSettlement m1_NoSettlement m2_NoSettlement m3_NoSettlement m5_NoSettlement : Option Value} {sl_NoSettlement : Array (Option Value)} {oc_NoSettlement dc_NoSettlement pm_NoSettlement cd_NoSettlement ct_NoSettlement : Value} {p1_NoSettlement p2_NoSettlement q1_NoSettlement q2_NoSettlement q3_NoSettlement q4_NoSettlement : Pos}
    (xl_NoSettlement : K.lookup 232 = some (excClassObj nm_NoSettlement q_NoSettlement 232 N_NoSettlement bs_NoSettlement [.ref 24, .type "ValueError", .type "Exception", .type "BaseException", .type "object"] true sn_NoSettlement sub_NoSettlement ab_NoSettlement col_NoSettlement dd_NoSettlement m0_NoSettlement m1_NoSettlement m2_NoSettlement m3_NoSettlement m5_NoSettlement "ValueError.__new__"))
    (xsa_NoSettlement : PySem.W.findIn K (.ref 232) "__setattr__" = some (some (.builtin "object.__setattr__")))
    (xga_NoSettlement : PySem.W.findIn K (.ref 232) "__getattribute__" = some (some (.builtin "BaseException.__getattribute__")))
    (xgg_NoSettlement : PySem.W.findIn K (.ref 232) "__getattr__" = some none)
    (xha_NoSettlement : PySem.W.findIn K (.ref 232) "__class__" = some (some (.builtin "object.__class__")))
    (xhm_NoSettlement : PySem.W.mroIn K 232 (.type "object") = some true)
    (xf_NoSettlement_error : PySem.W.findIn K (.ref 232) "error" = some none)
    (xf_NoSettlement_index : PySem.W.findIn K (.ref 232) "index" = some none)
    (xf_NoSettlement_amount : PySem.W.findIn K (.ref 232) "amount" = some none)
    (xf_NoSettlement_house : PySem.W.findIn K (.ref 232) "house" = some none)
    (xf_NoSettlement_version : PySem.W.findIn K (.ref 232) "version" = some none)
    (xf_NoSettlement_limit : PySem.W.findIn K (.ref 232) "limit" = some none)
    (xi_NoSettlement : PySem.W.findIn K (.ref 232) "__init__" = some (some (.ref I_NoSettlement)))
    (xit_NoSettlement : PySem.W.typeIn K (.ref I_NoSettlement) = some (.type "function"))
    (xil_NoSettlement : K.lookup I_NoSettlement = some ⟨oc_NoSettlement, od_NoSettlement, .func (PySem.W.fnOf "__init__" "NoSettlement.__init__" (PySem.SlipX.iA_error p1_NoSettlement p2_NoSettlement) (PySem.SlipX.iB_error q1_NoSettlement q2_NoSettlement q3_NoSettlement q4_NoSettlement) PySem.SlipX.iS_error .none .none dc_NoSettlement pm_NoSettlement an_NoSettlement cd_NoSettlement ct_NoSettlement), sl_NoSettlement⟩)
    (xic_NoSettlement : PySem.W.codeIn K cd_NoSettlement "NoSettlement.__init__" = true)
    (xk_NoSettlement : PySem.W.keepIn K (.ref 232) = true)
    (xe_NoSettlement : PySem.W.subIn K (.ref 232) (.type "BaseException") = some true)
    (xty_NoSettlement : PySem.W.typeIn K (.ref 232) = some (.type "type"))
    (xd_NoSettlement : PySem.W.hasDictIn K 232 = true)
    (xm_NoSettlement : PySem.W.subIn K (.ref 232) (.ref 24) = some true)
    (xv_NoSettlement : PySem.W.kitOne K (.ref 232) (.type "ValueError") = some true)
    (xt_NoSettlement_BadBatch : PySem.W.kitOne K (.ref 232) (.ref 37) = some false)
    (xt_NoSettlement_BadBook : PySem.W.kitOne K (.ref 232) (.ref 56) = some false)
    (xt_NoSettlement_BadPile : PySem.W.kitOne K (.ref 232) (.ref 75) = some false)
    (xt_NoSettlement_BadSlip : PySem.W.kitOne K (.ref 232) (.ref 94) = some false)
    (xt_NoSettlement_BadText : PySem.W.kitOne K (.ref 232) (.ref 113) = some false)
    (xt_NoSettlement_Busy : PySem.W.kitOne K (.ref 232) (.ref 125) = some false)
    (xt_NoSettlement_NoAmount : PySem.W.kitOne K (.ref 232) (.ref 144) = some false)
    (xt_NoSettlement_NoChoice : PySem.W.kitOne K (.ref 232) (.ref 156) = some false)
    (xt_NoSettlement_NoHouse : PySem.W.kitOne K (.ref 232) (.ref 175) = some false)
    (xt_NoSettlement_NoIndex : PySem.W.kitOne K (.ref 232) (.ref 194) = some false)
    (xt_NoSettlement_NoRing : PySem.W.kitOne K (.ref 232) (.ref 213) = some false)
    (xt_NoSettlement_NoSettlement : PySem.W.kitOne K (.ref 232) (.ref 232) = some true)
    (xt_NoSettlement_NotBelow : PySem.W.kitOne K (.ref 232) (.ref 244) = some false)
    (xt_NoSettlement_NothingToUndo : PySem.W.kitOne K (.ref 232) (.ref 256) = some false)
    (xt_NoSettlement_NoVersion : PySem.W.kitOne K (.ref 232) (.ref 275) = some false)
    (xt_NoSettlement_OtherBook : PySem.W.kitOne K (.ref 232) (.ref 287) = some false)
    (xt_NoSettlement_Overdrawn : PySem.W.kitOne K (.ref 232) (.ref 306) = some false)
    (xt_NoSettlement_Rejected : PySem.W.kitOne K (.ref 232) (.ref 325) = some false)
    (xt_NoSettlement_TooDeep : PySem.W.kitOne K (.ref 232) (.ref 344) = some false)
    (xt_NoSettlement_TooLarge : PySem.W.kitOne K (.ref 232) (.ref 363) = some false)
    (xt_NoSettlement_TooMany : PySem.W.kitOne K (.ref 232) (.ref 382) = some false)
    (xt_NoSettlement_TooManyEdits : PySem.W.kitOne K (.ref 232) (.ref 394) = some false)
    (xt_NoSettlement_TooRich : PySem.W.kitOne K (.ref 232) (.ref 413) = some false)
    (xt_NoSettlement_SlipError : PySem.W.kitOne K (.ref 232) (.ref 24) = some true)
    (xq_NotBelow : PySem.W.excIn K 244 [.type "ValueError", .type "Exception", .type "BaseException", .type "object"] "ValueError.__new__" = true)
    (xga_NotBelow : PySem.W.findIn K (.ref 244) "__getattribute__" = some (some (.builtin "BaseException.__getattribute__")))
    (xgg_NotBelow : PySem.W.findIn K (.ref 244) "__getattr__" = some none)
    (xha_NotBelow : PySem.W.findIn K (.ref 244) "__class__" = some (some (.builtin "object.__class__")))
    (xhm_NotBelow : PySem.W.mroIn K 244 (.type "object") = some true)
    (xf_NotBelow_error : PySem.W.findIn K (.ref 244) "error" = some none)
    (xf_NotBelow_index : PySem.W.findIn K (.ref 244) "index" = some none)
    (xf_NotBelow_amount : PySem.W.findIn K (.ref 244) "amount" = some none)
    (xf_NotBelow_house : PySem.W.findIn K (.ref 244) "house" = some none)
    (xf_NotBelow_version : PySem.W.findIn K (.ref 244) "version" = some none)
    (xf_NotBelow_limit : PySem.W.findIn K (.ref 244) "limit" = some none)
    (xk_NotBelow : PySem.W.keepIn K (.ref 244) = true)
    (xe_NotBelow : PySem.W.subIn K (.ref 244) (.type "BaseException") = some true)
    (xty_NotBelow : PySem.W.typeIn K (.ref 244) = some (.type "type"))
    (xd_NotBelow : PySem.W.hasDictIn K 244 = true)
    (xm_NotBelow : PySem.W.subIn K (.ref 244) (.ref 24) = some true)
    (xv_NotBelow : PySem.W.kitOne K (.ref 244) (.type "ValueError") = some true)
    (xt_NotBelow_BadBatch : PySem.W.kitOne K (.ref 244) (.ref 37) = some false)
    (xt_NotBelow_BadBook : PySem.W.kitOne K (.ref 244) (.ref 56) = some false)
    (xt_NotBelow_BadPile : PySem.W.kitOne K (.ref 244) (.ref 75) = some false)
    (xt_NotBelow_BadSlip : PySem.W.kitOne K (.ref 244) (.ref 94) = some false)
    (xt_NotBelow_BadText : PySem.W.kitOne K (.ref 244) (.ref 113) = some false)
    (xt_NotBelow_Busy : PySem.W.kitOne K (.ref 244) (.ref 125) = some false)
    (xt_NotBelow_NoAmount : PySem.W.kitOne K (.ref 244) (.ref 144) = some false)
    (xt_NotBelow_NoChoice : PySem.W.kitOne K (.ref 244) (.ref 156) = some false)
    (xt_NotBelow_NoHouse : PySem.W.kitOne K (.ref 244) (.ref 175) = some false)
    (xt_NotBelow_NoIndex : PySem.W.kitOne K (.ref 244) (.ref 194) = some false)
    (xt_NotBelow_NoRing : PySem.W.kitOne K (.ref 244) (.ref 213) = some false)
    (xt_NotBelow_NoSettlement : PySem.W.kitOne K (.ref 244) (.ref 232) = some false)
    (xt_NotBelow_NotBelow : PySem.W.kitOne K (.ref 244) (.ref 244) = some true)
    (xt_NotBelow_NothingToUndo : PySem.W.kitOne K (.ref 244) (.ref 256) = some false)
    (xt_NotBelow_NoVersion : PySem.W.kitOne K (.ref 244) (.ref 275) = some false)
    (xt_NotBelow_OtherBook : PySem.W.kitOne K (.ref 244) (.ref 287) = some false)
    (xt_NotBelow_Overdrawn : PySem.W.kitOne K (.ref 244) (.ref 306) = some false)
    (xt_NotBelow_Rejected : PySem.W.kitOne K (.ref 244) (.ref 325) = some false)
    (xt_NotBelow_TooDeep : PySem.W.kitOne K (.ref 244) (.ref 344) = some false)
    (xt_NotBelow_TooLarge : PySem.W.kitOne K (.ref 244) (.ref 363) = some false)
    (xt_NotBelow_TooMany : PySem.W.kitOne K (.ref 244) (.ref 382) = some false)
    (xt_NotBelow_TooManyEdits : PySem.W.kitOne K (.ref 244) (.ref 394) = some false)
    (xt_NotBelow_TooRich : PySem.W.kitOne K (.ref 244) (.ref 413) = some false)
    (xt_NotBelow_SlipError : PySem.W.kitOne K (.ref 244) (.ref 24) = some true)
    (xq_NothingToUndo : PySem.W.excIn K 256 [.type "ValueError", .type "Exception", .type "BaseException", .type "object"] "ValueError.__new__" = true)
    (xga_NothingToUndo : PySem.W.findIn K (.ref 256) "__getattribute__" = some (some (.builtin "BaseException.__getattribute__")))
    (xgg_NothingToUndo : PySem.W.findIn K (.ref 256) "__getattr__" = some none)
    (xha_NothingToUndo : PySem.W.findIn K (.ref 256) "__class__" = some (some (.builtin "object.__class__")))
    (xhm_NothingToUndo : PySem.W.mroIn K 256 (.type "object") = some true)
    (xf_NothingToUndo_error : PySem.W.findIn K (.ref 256) "error" = some none)
    (xf_NothingToUndo_index : PySem.W.findIn K (.ref 256) "index" = some none)
    (xf_NothingToUndo_amount : PySem.W.findIn K (.ref 256) "amount" = some none)
    (xf_NothingToUndo_house : PySem.W.findIn K (.ref 256) "house" = some none)
    (xf_NothingToUndo_version : PySem.W.findIn K (.ref 256) "version" = some none)
    (xf_NothingToUndo_limit : PySem.W.findIn K (.ref 256) "limit" = some none)
    (xk_NothingToUndo : PySem.W.keepIn K (.ref 256) = true)
    (xe_NothingToUndo : PySem.W.subIn K (.ref 256) (.type "BaseException") = some true)
    (xty_NothingToUndo : PySem.W.typeIn K (.ref 256) = some (.type "type"))
    (xd_NothingToUndo : PySem.W.hasDictIn K 256 = true)
    (xm_NothingToUndo : PySem.W.subIn K (.ref 256) (.ref 24) = some true)
    (xv_NothingToUndo : PySem.W.kitOne K (.ref 256) (.type "ValueError") = some true)
    (xt_NothingToUndo_BadBatch : PySem.W.kitOne K (.ref 256) (.ref 37) = some false)
    (xt_NothingToUndo_BadBook : PySem.W.kitOne K (.ref 256) (.ref 56) = some false)
    (xt_NothingToUndo_BadPile : PySem.W.kitOne K (.ref 256) (.ref 75) = some false)
    (xt_NothingToUndo_BadSlip : PySem.W.kitOne K (.ref 256) (.ref 94) = some false)
    (xt_NothingToUndo_BadText : PySem.W.kitOne K (.ref 256) (.ref 113) = some false)
    (xt_NothingToUndo_Busy : PySem.W.kitOne K (.ref 256) (.ref 125) = some false)
    (xt_NothingToUndo_NoAmount : PySem.W.kitOne K (.ref 256) (.ref 144) = some false)
    (xt_NothingToUndo_NoChoice : PySem.W.kitOne K (.ref 256) (.ref 156) = some false)
    (xt_NothingToUndo_NoHouse : PySem.W.kitOne K (.ref 256) (.ref 175) = some false)
    (xt_NothingToUndo_NoIndex : PySem.W.kitOne K (.ref 256) (.ref 194) = some false)
    (xt_NothingToUndo_NoRing : PySem.W.kitOne K (.ref 256) (.ref 213) = some false)
    (xt_NothingToUndo_NoSettlement : PySem.W.kitOne K (.ref 256) (.ref 232) = some false)
    (xt_NothingToUndo_NotBelow : PySem.W.kitOne K (.ref 256) (.ref 244) = some false)
    (xt_NothingToUndo_NothingToUndo : PySem.W.kitOne K (.ref 256) (.ref 256) = some true)
    (xt_NothingToUndo_NoVersion : PySem.W.kitOne K (.ref 256) (.ref 275) = some false)
    (xt_NothingToUndo_OtherBook : PySem.W.kitOne K (.ref 256) (.ref 287) = some false)
    (xt_NothingToUndo_Overdrawn : PySem.W.kitOne K (.ref 256) (.ref 306) = some false)
    (xt_NothingToUndo_Rejected : PySem.W.kitOne K (.ref 256) (.ref 325) = some false)
    (xt_NothingToUndo_TooDeep : PySem.W.kitOne K (.ref 256) (.ref 344) = some false)
    (xt_NothingToUndo_TooLarge : PySem.W.kitOne K (.ref 256) (.ref 363) = some false)
    (xt_NothingToUndo_TooMany : PySem.W.kitOne K (.ref 256) (.ref 382) = some false)
    (xt_NothingToUndo_TooManyEdits : PySem.W.kitOne K (.ref 256) (.ref 394) = some false)
    (xt_NothingToUndo_TooRich : PySem.W.kitOne K (.ref 256) (.ref 413) = some false)
    (xt_NothingToUndo_SlipError : PySem.W.kitOne K (.ref 256) (.ref 24) = some true)
    {nm_NoVersion q_NoVersion : Str} {N_NoVersion I_NoVersion : Addr} {bs_NoVersion : List Value} {sn_NoVersion : List Str} {sub_NoVersion : List Value} {ab_NoVersion : Bool} {col_NoVersion : Option Bool} {dd_NoVersion od_NoVersion an_NoVersion : Option Addr} {m0_NoVersion m1_NoVersion m2_NoVersion m3_NoVersion m5_NoVersion : Option Value} {sl_NoVersion : Array (Option Value)} {oc_NoVersion dc_NoVersion pm_NoVersion cd_NoVersion ct_NoVersion : Value} {p1_NoVersion p2_NoVersion q1_NoVersion q2_NoVersion q3_NoVersion q4_NoVersion : Pos}
    (xl_NoVersion : K.lookup 275 = some (excClassObj nm_NoVersion q_NoVersion 275 N_NoVersion bs_NoVersion [.ref 24, .type "ValueError", .type "Exception", .type "BaseException", .type "object"] true sn_NoVersion sub_NoVersion ab_NoVersion col_NoVersion dd_NoVersion m0_NoVersion m1_NoVersion m2_NoVersion m3_NoVersion m5_NoVersion "ValueError.__new__"))
    (xsa_NoVersion : PySem.W.findIn K (.ref 275) "__setattr__" = some (some (.builtin "object.__setattr__")))
    (xga_NoVersion : PySem.W.findIn K (.ref 275) "__getattribute__" = some (some (.builtin "BaseException.__getattribute__")))
    (xgg_NoVersion : PySem.W.findIn K (.ref 275) "__getattr__" = some none)
    (xha_NoVersion : PySem.W.findIn K (.ref 275) "__class__" = some (some (.builtin "object.__class__")))
    (xhm_NoVersion : PySem.W.mroIn K 275 (.type "object") = some true)
    (xf_NoVersion_error : PySem.W.findIn K (.ref 275) "error" = some none)
    (xf_NoVersion_index : PySem.W.findIn K (.ref 275) "index" = some none)
    (xf_NoVersion_amount : PySem.W.findIn K (.ref 275) "amount" = some none)
    (xf_NoVersion_house : PySem.W.findIn K (.ref 275) "house" = some none)
    (xf_NoVersion_version : PySem.W.findIn K (.ref 275) "version" = some none)
    (xf_NoVersion_limit : PySem.W.findIn K (.ref 275) "limit" = some none)
    (xi_NoVersion : PySem.W.findIn K (.ref 275) "__init__" = some (some (.ref I_NoVersion)))
    (xit_NoVersion : PySem.W.typeIn K (.ref I_NoVersion) = some (.type "function"))
    (xil_NoVersion : K.lookup I_NoVersion = some ⟨oc_NoVersion, od_NoVersion, .func (PySem.W.fnOf "__init__" "NoVersion.__init__" (PySem.SlipX.iA_version p1_NoVersion p2_NoVersion) (PySem.SlipX.iB_version q1_NoVersion q2_NoVersion q3_NoVersion q4_NoVersion) PySem.SlipX.iS_version .none .none dc_NoVersion pm_NoVersion an_NoVersion cd_NoVersion ct_NoVersion), sl_NoVersion⟩)
    (xic_NoVersion : PySem.W.codeIn K cd_NoVersion "NoVersion.__init__" = true)
    (xk_NoVersion : PySem.W.keepIn K (.ref 275) = true)
    (xe_NoVersion : PySem.W.subIn K (.ref 275) (.type "BaseException") = some true)
    (xty_NoVersion : PySem.W.typeIn K (.ref 275) = some (.type "type"))
    (xd_NoVersion : PySem.W.hasDictIn K 275 = true)
    (xm_NoVersion : PySem.W.subIn K (.ref 275) (.ref 24) = some true)
    (xv_NoVersion : PySem.W.kitOne K (.ref 275) (.type "ValueError") = some true)
    (xt_NoVersion_BadBatch : PySem.W.kitOne K (.ref 275) (.ref 37) = some false)
    (xt_NoVersion_BadBook : PySem.W.kitOne K (.ref 275) (.ref 56) = some false)
    (xt_NoVersion_BadPile : PySem.W.kitOne K (.ref 275) (.ref 75) = some false)
    (xt_NoVersion_BadSlip : PySem.W.kitOne K (.ref 275) (.ref 94) = some false)
    (xt_NoVersion_BadText : PySem.W.kitOne K (.ref 275) (.ref 113) = some false)
    (xt_NoVersion_Busy : PySem.W.kitOne K (.ref 275) (.ref 125) = some false)
    (xt_NoVersion_NoAmount : PySem.W.kitOne K (.ref 275) (.ref 144) = some false)
    (xt_NoVersion_NoChoice : PySem.W.kitOne K (.ref 275) (.ref 156) = some false)
    (xt_NoVersion_NoHouse : PySem.W.kitOne K (.ref 275) (.ref 175) = some false)
    (xt_NoVersion_NoIndex : PySem.W.kitOne K (.ref 275) (.ref 194) = some false)
    (xt_NoVersion_NoRing : PySem.W.kitOne K (.ref 275) (.ref 213) = some false)
    (xt_NoVersion_NoSettlement : PySem.W.kitOne K (.ref 275) (.ref 232) = some false)
    (xt_NoVersion_NotBelow : PySem.W.kitOne K (.ref 275) (.ref 244) = some false)
    (xt_NoVersion_NothingToUndo : PySem.W.kitOne K (.ref 275) (.ref 256) = some false)
    (xt_NoVersion_NoVersion : PySem.W.kitOne K (.ref 275) (.ref 275) = some true)
    (xt_NoVersion_OtherBook : PySem.W.kitOne K (.ref 275) (.ref 287) = some false)
    (xt_NoVersion_Overdrawn : PySem.W.kitOne K (.ref 275) (.ref 306) = some false)
    (xt_NoVersion_Rejected : PySem.W.kitOne K (.ref 275) (.ref 325) = some false)
    (xt_NoVersion_TooDeep : PySem.W.kitOne K (.ref 275) (.ref 344) = some false)
    (xt_NoVersion_TooLarge : PySem.W.kitOne K (.ref 275) (.ref 363) = some false)
    (xt_NoVersion_TooMany : PySem.W.kitOne K (.ref 275) (.ref 382) = some false)
    (xt_NoVersion_TooManyEdits : PySem.W.kitOne K (.ref 275) (.ref 394) = some false)
    (xt_NoVersion_TooRich : PySem.W.kitOne K (.ref 275) (.ref 413) = some false)
    (xt_NoVersion_SlipError : PySem.W.kitOne K (.ref 275) (.ref 24) = some true)
    (xq_OtherBook : PySem.W.excIn K 287 [.type "ValueError", .type "Exception", .type "BaseException", .type "object"] "ValueError.__new__" = true)
    (xga_OtherBook : PySem.W.findIn K (.ref 287) "__getattribute__" = some (some (.builtin "BaseException.__getattribute__")))
    (xgg_OtherBook : PySem.W.findIn K (.ref 287) "__getattr__" = some none)
    (xha_OtherBook : PySem.W.findIn K (.ref 287) "__class__" = some (some (.builtin "object.__class__")))
    (xhm_OtherBook : PySem.W.mroIn K 287 (.type "object") = some true)
    (xf_OtherBook_error : PySem.W.findIn K (.ref 287) "error" = some none)
    (xf_OtherBook_index : PySem.W.findIn K (.ref 287) "index" = some none)
    (xf_OtherBook_amount : PySem.W.findIn K (.ref 287) "amount" = some none)
    (xf_OtherBook_house : PySem.W.findIn K (.ref 287) "house" = some none)
    (xf_OtherBook_version : PySem.W.findIn K (.ref 287) "version" = some none)
    (xf_OtherBook_limit : PySem.W.findIn K (.ref 287) "limit" = some none)
    (xk_OtherBook : PySem.W.keepIn K (.ref 287) = true)
    (xe_OtherBook : PySem.W.subIn K (.ref 287) (.type "BaseException") = some true)
    (xty_OtherBook : PySem.W.typeIn K (.ref 287) = some (.type "type"))
    (xd_OtherBook : PySem.W.hasDictIn K 287 = true)
    (xm_OtherBook : PySem.W.subIn K (.ref 287) (.ref 24) = some true)
    (xv_OtherBook : PySem.W.kitOne K (.ref 287) (.type "ValueError") = some true)
    (xt_OtherBook_BadBatch : PySem.W.kitOne K (.ref 287) (.ref 37) = some false)
    (xt_OtherBook_BadBook : PySem.W.kitOne K (.ref 287) (.ref 56) = some false)
    (xt_OtherBook_BadPile : PySem.W.kitOne K (.ref 287) (.ref 75) = some false)
    (xt_OtherBook_BadSlip : PySem.W.kitOne K (.ref 287) (.ref 94) = some false)
    (xt_OtherBook_BadText : PySem.W.kitOne K (.ref 287) (.ref 113) = some false)
    (xt_OtherBook_Busy : PySem.W.kitOne K (.ref 287) (.ref 125) = some false)
    (xt_OtherBook_NoAmount : PySem.W.kitOne K (.ref 287) (.ref 144) = some false)
    (xt_OtherBook_NoChoice : PySem.W.kitOne K (.ref 287) (.ref 156) = some false)
    (xt_OtherBook_NoHouse : PySem.W.kitOne K (.ref 287) (.ref 175) = some false)
    (xt_OtherBook_NoIndex : PySem.W.kitOne K (.ref 287) (.ref 194) = some false)
    (xt_OtherBook_NoRing : PySem.W.kitOne K (.ref 287) (.ref 213) = some false)
    (xt_OtherBook_NoSettlement : PySem.W.kitOne K (.ref 287) (.ref 232) = some false)
    (xt_OtherBook_NotBelow : PySem.W.kitOne K (.ref 287) (.ref 244) = some false)
    (xt_OtherBook_NothingToUndo : PySem.W.kitOne K (.ref 287) (.ref 256) = some false)
    (xt_OtherBook_NoVersion : PySem.W.kitOne K (.ref 287) (.ref 275) = some false)
    (xt_OtherBook_OtherBook : PySem.W.kitOne K (.ref 287) (.ref 287) = some true)
    (xt_OtherBook_Overdrawn : PySem.W.kitOne K (.ref 287) (.ref 306) = some false)
    (xt_OtherBook_Rejected : PySem.W.kitOne K (.ref 287) (.ref 325) = some false)
    (xt_OtherBook_TooDeep : PySem.W.kitOne K (.ref 287) (.ref 344) = some false)
    (xt_OtherBook_TooLarge : PySem.W.kitOne K (.ref 287) (.ref 363) = some false)
    (xt_OtherBook_TooMany : PySem.W.kitOne K (.ref 287) (.ref 382) = some false)
    (xt_OtherBook_TooManyEdits : PySem.W.kitOne K (.ref 287) (.ref 394) = some false)
    (xt_OtherBook_TooRich : PySem.W.kitOne K (.ref 287) (.ref 413) = some false)
    (xt_OtherBook_SlipError : PySem.W.kitOne K (.ref 287) (.ref 24) = some true)
    {nm_Overdrawn q_Overdrawn : Str} {N_Overdrawn I_Overdrawn : Addr} {bs_Overdrawn : List Value} {sn_Overdrawn : List Str} {sub_Overdrawn : List Value} {ab_Overdrawn : Bool} {col_Overdrawn : Option Bool} {dd_Overdrawn od_Overdrawn an_Overdrawn : Option Addr} {m0_Overdrawn m1_Overdrawn m2_Overdrawn m3_Overdrawn m5_Overdrawn : Option Value} {sl_Overdrawn : Array (Option Value)} {oc_Overdrawn dc_Overdrawn pm_Overdrawn cd_Overdrawn ct_Overdrawn : Value} {p1_Overdrawn p2_Overdrawn q1_Overdrawn q2_Overdrawn q3_Overdrawn q4_Overdrawn : Pos}
    (xl_Overdrawn : K.lookup 306 = some (excClassObj nm_Overdrawn q_Overdrawn 306 N_Overdrawn bs_Overdrawn [.ref 24, .type "ValueError", .type "Exception", .type "BaseException", .type "object"] true sn_Overdrawn sub_Overdrawn ab_Overdrawn col_Overdrawn dd_Overdrawn m0_Overdrawn m1_Overdrawn m2_Overdrawn m3_Overdrawn m5_Overdrawn "ValueError.__new__"))
    (xsa_Overdrawn : PySem.W.findIn K (.ref 306) "__setattr__" = some (some (.builtin "object.__setattr__")))
    (xga_Overdrawn : PySem.W.findIn K (.ref 306) "__getattribute__" = some (some (.builtin "BaseException.__getattribute__")))
    (xgg_Overdrawn : PySem.W.findIn K (.ref 306) "__getattr__" = some none)
    (xha_Overdrawn : PySem.W.findIn K (.ref 306) "__class__" = some (some (.builtin "object.__class__")))
    (xhm_Overdrawn : PySem.W.mroIn K 306 (.type "object") = some true)
    (xf_Overdrawn_error : PySem.W.findIn K (.ref 306) "error" = some none)
    (xf_Overdrawn_index : PySem.W.findIn K (.ref 306) "index" = some none)
    (xf_Overdrawn_amount : PySem.W.findIn K (.ref 306) "amount" = some none)
    (xf_Overdrawn_house : PySem.W.findIn K (.ref 306) "house" = some none)
    (xf_Overdrawn_version : PySem.W.findIn K (.ref 306) "version" = some none)
    (xf_Overdrawn_limit : PySem.W.findIn K (.ref 306) "limit" = some none)
    (xi_Overdrawn : PySem.W.findIn K (.ref 306) "__init__" = some (some (.ref I_Overdrawn)))
    (xit_Overdrawn : PySem.W.typeIn K (.ref I_Overdrawn) = some (.type "function"))
    (xil_Overdrawn : K.lookup I_Overdrawn = some ⟨oc_Overdrawn, od_Overdrawn, .func (PySem.W.fnOf "__init__" "Overdrawn.__init__" (PySem.SlipX.iA_house p1_Overdrawn p2_Overdrawn) (PySem.SlipX.iB_house q1_Overdrawn q2_Overdrawn q3_Overdrawn q4_Overdrawn) PySem.SlipX.iS_house .none .none dc_Overdrawn pm_Overdrawn an_Overdrawn cd_Overdrawn ct_Overdrawn), sl_Overdrawn⟩)
    (xic_Overdrawn : PySem.W.codeIn K cd_Overdrawn "Overdrawn.__init__" = true)
    (xk_Overdrawn : PySem.W.keepIn K (.ref 306) = true)
    (xe_Overdrawn : PySem.W.subIn K (.ref 306) (.type "BaseException") = some true)
    (xty_Overdrawn : PySem.W.typeIn K (.ref 306) = some (.type "type"))
    (xd_Overdrawn : PySem.W.hasDictIn K 306 = true)
    (xm_Overdrawn : PySem.W.subIn K (.ref 306) (.ref 24) = some true)
    (xv_Overdrawn : PySem.W.kitOne K (.ref 306) (.type "ValueError") = some true)
    (xt_Overdrawn_BadBatch : PySem.W.kitOne K (.ref 306) (.ref 37) = some false)
    (xt_Overdrawn_BadBook : PySem.W.kitOne K (.ref 306) (.ref 56) = some false)
    (xt_Overdrawn_BadPile : PySem.W.kitOne K (.ref 306) (.ref 75) = some false)
    (xt_Overdrawn_BadSlip : PySem.W.kitOne K (.ref 306) (.ref 94) = some false)
    (xt_Overdrawn_BadText : PySem.W.kitOne K (.ref 306) (.ref 113) = some false)
    (xt_Overdrawn_Busy : PySem.W.kitOne K (.ref 306) (.ref 125) = some false)
    (xt_Overdrawn_NoAmount : PySem.W.kitOne K (.ref 306) (.ref 144) = some false)
    (xt_Overdrawn_NoChoice : PySem.W.kitOne K (.ref 306) (.ref 156) = some false)
    (xt_Overdrawn_NoHouse : PySem.W.kitOne K (.ref 306) (.ref 175) = some false)
    (xt_Overdrawn_NoIndex : PySem.W.kitOne K (.ref 306) (.ref 194) = some false)
    (xt_Overdrawn_NoRing : PySem.W.kitOne K (.ref 306) (.ref 213) = some false)
    (xt_Overdrawn_NoSettlement : PySem.W.kitOne K (.ref 306) (.ref 232) = some false)
    (xt_Overdrawn_NotBelow : PySem.W.kitOne K (.ref 306) (.ref 244) = some false)
    (xt_Overdrawn_NothingToUndo : PySem.W.kitOne K (.ref 306) (.ref 256) = some false)
    (xt_Overdrawn_NoVersion : PySem.W.kitOne K (.ref 306) (.ref 275) = some false)
    (xt_Overdrawn_OtherBook : PySem.W.kitOne K (.ref 306) (.ref 287) = some false)
    (xt_Overdrawn_Overdrawn : PySem.W.kitOne K (.ref 306) (.ref 306) = some true)
    (xt_Overdrawn_Rejected : PySem.W.kitOne K (.ref 306) (.ref 325) = some false)
    (xt_Overdrawn_TooDeep : PySem.W.kitOne K (.ref 306) (.ref 344) = some false)
    (xt_Overdrawn_TooLarge : PySem.W.kitOne K (.ref 306) (.ref 363) = some false)
    (xt_Overdrawn_TooMany : PySem.W.kitOne K (.ref 306) (.ref 382) = some false)
    (xt_Overdrawn_TooManyEdits : PySem.W.kitOne K (.ref 306) (.ref 394) = some false)
    (xt_Overdrawn_TooRich : PySem.W.kitOne K (.ref 306) (.ref 413) = some false)
    (xt_Overdrawn_SlipError : PySem.W.kitOne K (.ref 306) (.ref 24) = some true)
    {nm_Rejected q_Rejected : Str} {N_Rejected I_Rejected : Addr} {bs_Rejected : List Value} {sn_Rejected : List Str} {sub_Rejected : List Value} {ab_Rejected : Bool} {col_Rejected : Option Bool} {dd_Rejected od_Rejected an_Rejected : Option Addr} {m0_Rejected m1_Rejected m2_Rejected m3_Rejected m5_Rejected : Option Value} {sl_Rejected : Array (Option Value)} {oc_Rejected dc_Rejected pm_Rejected cd_Rejected ct_Rejected : Value} {p1_Rejected p2_Rejected q1_Rejected q2_Rejected q3_Rejected q4_Rejected : Pos}
    (xl_Rejected : K.lookup 325 = some (excClassObj nm_Rejected q_Rejected 325 N_Rejected bs_Rejected [.ref 24, .type "ValueError", .type "Exception", .type "BaseException", .type "object"] true sn_Rejected sub_Rejected ab_Rejected col_Rejected dd_Rejected m0_Rejected m1_Rejected m2_Rejected m3_Rejected m5_Rejected "ValueError.__new__"))
    (xsa_Rejected : PySem.W.findIn K (.ref 325) "__setattr__" = some (some (.builtin "object.__setattr__")))
    (xga_Rejected : PySem.W.findIn K (.ref 325) "__getattribute__" = some (some (.builtin "BaseException.__getattribute__")))
    (xgg_Rejected : PySem.W.findIn K (.ref 325) "__getattr__" = some none)
    (xha_Rejected : PySem.W.findIn K (.ref 325) "__class__" = some (some (.builtin "object.__class__")))
    (xhm_Rejected : PySem.W.mroIn K 325 (.type "object") = some true)
    (xf_Rejected_error : PySem.W.findIn K (.ref 325) "error" = some none)
    (xf_Rejected_index : PySem.W.findIn K (.ref 325) "index" = some none)
    (xf_Rejected_amount : PySem.W.findIn K (.ref 325) "amount" = some none)
    (xf_Rejected_house : PySem.W.findIn K (.ref 325) "house" = some none)
    (xf_Rejected_version : PySem.W.findIn K (.ref 325) "version" = some none)
    (xf_Rejected_limit : PySem.W.findIn K (.ref 325) "limit" = some none)
    (xi_Rejected : PySem.W.findIn K (.ref 325) "__init__" = some (some (.ref I_Rejected)))
    (xit_Rejected : PySem.W.typeIn K (.ref I_Rejected) = some (.type "function"))
    (xil_Rejected : K.lookup I_Rejected = some ⟨oc_Rejected, od_Rejected, .func (PySem.W.fnOf "__init__" "Rejected.__init__" (PySem.SlipX.iA_index p1_Rejected p2_Rejected) (PySem.SlipX.iB_index q1_Rejected q2_Rejected q3_Rejected q4_Rejected) PySem.SlipX.iS_index .none .none dc_Rejected pm_Rejected an_Rejected cd_Rejected ct_Rejected), sl_Rejected⟩)
    (xic_Rejected : PySem.W.codeIn K cd_Rejected "Rejected.__init__" = true)
    (xk_Rejected : PySem.W.keepIn K (.ref 325) = true)
    (xe_Rejected : PySem.W.subIn K (.ref 325) (.type "BaseException") = some true)
    (xty_Rejected : PySem.W.typeIn K (.ref 325) = some (.type "type"))
    (xd_Rejected : PySem.W.hasDictIn K 325 = true)
    (xm_Rejected : PySem.W.subIn K (.ref 325) (.ref 24) = some true)
    (xv_Rejected : PySem.W.kitOne K (.ref 325) (.type "ValueError") = some true)
    (xt_Rejected_BadBatch : PySem.W.kitOne K (.ref 325) (.ref 37) = some false)
    (xt_Rejected_BadBook : PySem.W.kitOne K (.ref 325) (.ref 56) = some false)
    (xt_Rejected_BadPile : PySem.W.kitOne K (.ref 325) (.ref 75) = some false)
    (xt_Rejected_BadSlip : PySem.W.kitOne K (.ref 325) (.ref 94) = some false)
    (xt_Rejected_BadText : PySem.W.kitOne K (.ref 325) (.ref 113) = some false)
    (xt_Rejected_Busy : PySem.W.kitOne K (.ref 325) (.ref 125) = some false)
    (xt_Rejected_NoAmount : PySem.W.kitOne K (.ref 325) (.ref 144) = some false)
    (xt_Rejected_NoChoice : PySem.W.kitOne K (.ref 325) (.ref 156) = some false)
    (xt_Rejected_NoHouse : PySem.W.kitOne K (.ref 325) (.ref 175) = some false)
    (xt_Rejected_NoIndex : PySem.W.kitOne K (.ref 325) (.ref 194) = some false)
    (xt_Rejected_NoRing : PySem.W.kitOne K (.ref 325) (.ref 213) = some false)
    (xt_Rejected_NoSettlement : PySem.W.kitOne K (.ref 325) (.ref 232) = some false)
    (xt_Rejected_NotBelow : PySem.W.kitOne K (.ref 325) (.ref 244) = some false)
    (xt_Rejected_NothingToUndo : PySem.W.kitOne K (.ref 325) (.ref 256) = some false)
    (xt_Rejected_NoVersion : PySem.W.kitOne K (.ref 325) (.ref 275) = some false)
    (xt_Rejected_OtherBook : PySem.W.kitOne K (.ref 325) (.ref 287) = some false)
    (xt_Rejected_Overdrawn : PySem.W.kitOne K (.ref 325) (.ref 306) = some false)
    (xt_Rejected_Rejected : PySem.W.kitOne K (.ref 325) (.ref 325) = some true)
    (xt_Rejected_TooDeep : PySem.W.kitOne K (.ref 325) (.ref 344) = some false)
    (xt_Rejected_TooLarge : PySem.W.kitOne K (.ref 325) (.ref 363) = some false)
    (xt_Rejected_TooMany : PySem.W.kitOne K (.ref 325) (.ref 382) = some false)
    (xt_Rejected_TooManyEdits : PySem.W.kitOne K (.ref 325) (.ref 394) = some false)
    (xt_Rejected_TooRich : PySem.W.kitOne K (.ref 325) (.ref 413) = some false)
    (xt_Rejected_SlipError : PySem.W.kitOne K (.ref 325) (.ref 24) = some true)
    {nm_TooDeep q_TooDeep : Str} {N_TooDeep I_TooDeep : Addr} {bs_TooDeep : List Value} {sn_TooDeep : List Str} {sub_TooDeep : List Value} {ab_TooDeep : Bool} {col_TooDeep : Option Bool} {dd_TooDeep od_TooDeep an_TooDeep : Option Addr} {m0_TooDeep m1_TooDeep m2_TooDeep m3_TooDeep m5_TooDeep : Option Value} {sl_TooDeep : Array (Option Value)} {oc_TooDeep dc_TooDeep pm_TooDeep cd_TooDeep ct_TooDeep : Value} {p1_TooDeep p2_TooDeep q1_TooDeep q2_TooDeep q3_TooDeep q4_TooDeep : Pos}
    (xl_TooDeep : K.lookup 344 = some (excClassObj nm_TooDeep q_TooDeep 344 N_TooDeep bs_TooDeep [.ref 24, .type "ValueError", .type "Exception", .type "BaseException", .type "object"] true sn_TooDeep sub_TooDeep ab_TooDeep col_TooDeep dd_TooDeep m0_TooDeep m1_TooDeep m2_TooDeep m3_TooDeep m5_TooDeep "ValueError.__new__"))
    (xsa_TooDeep : PySem.W.findIn K (.ref 344) "__setattr__" = some (some (.builtin "object.__setattr__")))
    (xga_TooDeep : PySem.W.findIn K (.ref 344) "__getattribute__" = some (some (.builtin "BaseException.__getattribute__")))
    (xgg_TooDeep : PySem.W.findIn K (.ref 344) "__getattr__" = some none)
    (xha_TooDeep : PySem.W.findIn K (.ref 344) "__class__" = some (some (.builtin "object.__class__")))
    (xhm_TooDeep : PySem.W.mroIn K 344 (.type "object") = some true)
    (xf_TooDeep_error : PySem.W.findIn K (.ref 344) "error" = some none)
    (xf_TooDeep_index : PySem.W.findIn K (.ref 344) "index" = some none)
    (xf_TooDeep_amount : PySem.W.findIn K (.ref 344) "amount" = some none)
    (xf_TooDeep_house : PySem.W.findIn K (.ref 344) "house" = some none)
    (xf_TooDeep_version : PySem.W.findIn K (.ref 344) "version" = some none)
    (xf_TooDeep_limit : PySem.W.findIn K (.ref 344) "limit" = some none)
    (xi_TooDeep : PySem.W.findIn K (.ref 344) "__init__" = some (some (.ref I_TooDeep)))
    (xit_TooDeep : PySem.W.typeIn K (.ref I_TooDeep) = some (.type "function"))
    (xil_TooDeep : K.lookup I_TooDeep = some ⟨oc_TooDeep, od_TooDeep, .func (PySem.W.fnOf "__init__" "TooDeep.__init__" (PySem.SlipX.iA_house p1_TooDeep p2_TooDeep) (PySem.SlipX.iB_house q1_TooDeep q2_TooDeep q3_TooDeep q4_TooDeep) PySem.SlipX.iS_house .none .none dc_TooDeep pm_TooDeep an_TooDeep cd_TooDeep ct_TooDeep), sl_TooDeep⟩)
    (xic_TooDeep : PySem.W.codeIn K cd_TooDeep "TooDeep.__init__" = true)
    (xk_TooDeep : PySem.W.keepIn K (.ref 344) = true)
    (xe_TooDeep : PySem.W.subIn K (.ref 344) (.type "BaseException") = some true)
    (xty_TooDeep : PySem.W.typeIn K (.ref 344) = some (.type "type"))
    (xd_TooDeep : PySem.W.hasDictIn K 344 = true)
    (xm_TooDeep : PySem.W.subIn K (.ref 344) (.ref 24) = some true)
    (xv_TooDeep : PySem.W.kitOne K (.ref 344) (.type "ValueError") = some true)
    (xt_TooDeep_BadBatch : PySem.W.kitOne K (.ref 344) (.ref 37) = some false)
    (xt_TooDeep_BadBook : PySem.W.kitOne K (.ref 344) (.ref 56) = some false)
    (xt_TooDeep_BadPile : PySem.W.kitOne K (.ref 344) (.ref 75) = some false)
    (xt_TooDeep_BadSlip : PySem.W.kitOne K (.ref 344) (.ref 94) = some false)
    (xt_TooDeep_BadText : PySem.W.kitOne K (.ref 344) (.ref 113) = some false)
    (xt_TooDeep_Busy : PySem.W.kitOne K (.ref 344) (.ref 125) = some false)
    (xt_TooDeep_NoAmount : PySem.W.kitOne K (.ref 344) (.ref 144) = some false)
    (xt_TooDeep_NoChoice : PySem.W.kitOne K (.ref 344) (.ref 156) = some false)
    (xt_TooDeep_NoHouse : PySem.W.kitOne K (.ref 344) (.ref 175) = some false)
    (xt_TooDeep_NoIndex : PySem.W.kitOne K (.ref 344) (.ref 194) = some false)
    (xt_TooDeep_NoRing : PySem.W.kitOne K (.ref 344) (.ref 213) = some false)
    (xt_TooDeep_NoSettlement : PySem.W.kitOne K (.ref 344) (.ref 232) = some false)
    (xt_TooDeep_NotBelow : PySem.W.kitOne K (.ref 344) (.ref 244) = some false)
    (xt_TooDeep_NothingToUndo : PySem.W.kitOne K (.ref 344) (.ref 256) = some false)
    (xt_TooDeep_NoVersion : PySem.W.kitOne K (.ref 344) (.ref 275) = some false)
    (xt_TooDeep_OtherBook : PySem.W.kitOne K (.ref 344) (.ref 287) = some false)
    (xt_TooDeep_Overdrawn : PySem.W.kitOne K (.ref 344) (.ref 306) = some false)
    (xt_TooDeep_Rejected : PySem.W.kitOne K (.ref 344) (.ref 325) = some false)
    (xt_TooDeep_TooDeep : PySem.W.kitOne K (.ref 344) (.ref 344) = some true)
    (xt_TooDeep_TooLarge : PySem.W.kitOne K (.ref 344) (.ref 363) = some false)
    (xt_TooDeep_TooMany : PySem.W.kitOne K (.ref 344) (.ref 382) = some false)
    (xt_TooDeep_TooManyEdits : PySem.W.kitOne K (.ref 344) (.ref 394) = some false)
    (xt_TooDeep_TooRich : PySem.W.kitOne K (.ref 344) (.ref 413) = some false)
    (xt_TooDeep_SlipError : PySem.W.kitOne K (.ref 344) (.ref 24) = some true)
    {nm_TooLarge q_TooLarge : Str} {N_TooLarge I_TooLarge : Addr} {bs_TooLarge : List Value} {sn_TooLarge : List Str} {sub_TooLarge : List Value} {ab_TooLarge : Bool} {col_TooLarge : Option Bool} {dd_TooLarge od_TooLarge an_TooLarge : Option Addr} {m0_TooLarge m1_TooLarge m2_TooLarge m3_TooLarge m5_TooLarge : Option Value} {sl_TooLarge : Array (Option Value)} {oc_TooLarge dc_TooLarge pm_TooLarge cd_TooLarge ct_TooLarge : Value} {p1_TooLarge p2_TooLarge q1_TooLarge q2_TooLarge q3_TooLarge q4_TooLarge : Pos}
    (xl_TooLarge : K.lookup 363 = some (excClassObj nm_TooLarge q_TooLarge 363 N_TooLarge bs_TooLarge [.ref 24, .type "ValueError", .type "Exception", .type "BaseException", .type "object"] true sn_TooLarge sub_TooLarge ab_TooLarge col_TooLarge dd_TooLarge m0_TooLarge m1_TooLarge m2_TooLarge m3_TooLarge m5_TooLarge "ValueError.__new__"))
    (xsa_TooLarge : PySem.W.findIn K (.ref 363) "__setattr__" = some (some (.builtin "object.__setattr__")))
    (xga_TooLarge : PySem.W.findIn K (.ref 363) "__getattribute__" = some (some (.builtin "BaseException.__getattribute__")))
    (xgg_TooLarge : PySem.W.findIn K (.ref 363) "__getattr__" = some none)
    (xha_TooLarge : PySem.W.findIn K (.ref 363) "__class__" = some (some (.builtin "object.__class__")))
    (xhm_TooLarge : PySem.W.mroIn K 363 (.type "object") = some true)
    (xf_TooLarge_error : PySem.W.findIn K (.ref 363) "error" = some none)
    (xf_TooLarge_index : PySem.W.findIn K (.ref 363) "index" = some none)
    (xf_TooLarge_amount : PySem.W.findIn K (.ref 363) "amount" = some none)
    (xf_TooLarge_house : PySem.W.findIn K (.ref 363) "house" = some none)
    (xf_TooLarge_version : PySem.W.findIn K (.ref 363) "version" = some none)
    (xf_TooLarge_limit : PySem.W.findIn K (.ref 363) "limit" = some none)
    (xi_TooLarge : PySem.W.findIn K (.ref 363) "__init__" = some (some (.ref I_TooLarge)))
    (xit_TooLarge : PySem.W.typeIn K (.ref I_TooLarge) = some (.type "function"))
    (xil_TooLarge : K.lookup I_TooLarge = some ⟨oc_TooLarge, od_TooLarge, .func (PySem.W.fnOf "__init__" "TooLarge.__init__" (PySem.SlipX.iA_limit p1_TooLarge p2_TooLarge) (PySem.SlipX.iB_limit q1_TooLarge q2_TooLarge q3_TooLarge q4_TooLarge) PySem.SlipX.iS_limit .none .none dc_TooLarge pm_TooLarge an_TooLarge cd_TooLarge ct_TooLarge), sl_TooLarge⟩)
    (xic_TooLarge : PySem.W.codeIn K cd_TooLarge "TooLarge.__init__" = true)
    (xk_TooLarge : PySem.W.keepIn K (.ref 363) = true)
    (xe_TooLarge : PySem.W.subIn K (.ref 363) (.type "BaseException") = some true)
    (xty_TooLarge : PySem.W.typeIn K (.ref 363) = some (.type "type"))
    (xd_TooLarge : PySem.W.hasDictIn K 363 = true)
    (xm_TooLarge : PySem.W.subIn K (.ref 363) (.ref 24) = some true)
    (xv_TooLarge : PySem.W.kitOne K (.ref 363) (.type "ValueError") = some true)
    (xt_TooLarge_BadBatch : PySem.W.kitOne K (.ref 363) (.ref 37) = some false)
    (xt_TooLarge_BadBook : PySem.W.kitOne K (.ref 363) (.ref 56) = some false)
    (xt_TooLarge_BadPile : PySem.W.kitOne K (.ref 363) (.ref 75) = some false)
    (xt_TooLarge_BadSlip : PySem.W.kitOne K (.ref 363) (.ref 94) = some false)
    (xt_TooLarge_BadText : PySem.W.kitOne K (.ref 363) (.ref 113) = some false)
    (xt_TooLarge_Busy : PySem.W.kitOne K (.ref 363) (.ref 125) = some false)
    (xt_TooLarge_NoAmount : PySem.W.kitOne K (.ref 363) (.ref 144) = some false)
    (xt_TooLarge_NoChoice : PySem.W.kitOne K (.ref 363) (.ref 156) = some false)
    (xt_TooLarge_NoHouse : PySem.W.kitOne K (.ref 363) (.ref 175) = some false)
    (xt_TooLarge_NoIndex : PySem.W.kitOne K (.ref 363) (.ref 194) = some false)
    (xt_TooLarge_NoRing : PySem.W.kitOne K (.ref 363) (.ref 213) = some false)
    (xt_TooLarge_NoSettlement : PySem.W.kitOne K (.ref 363) (.ref 232) = some false)
    (xt_TooLarge_NotBelow : PySem.W.kitOne K (.ref 363) (.ref 244) = some false)
    (xt_TooLarge_NothingToUndo : PySem.W.kitOne K (.ref 363) (.ref 256) = some false)
    (xt_TooLarge_NoVersion : PySem.W.kitOne K (.ref 363) (.ref 275) = some false)
    (xt_TooLarge_OtherBook : PySem.W.kitOne K (.ref 363) (.ref 287) = some false)
    (xt_TooLarge_Overdrawn : PySem.W.kitOne K (.ref 363) (.ref 306) = some false)
    (xt_TooLarge_Rejected : PySem.W.kitOne K (.ref 363) (.ref 325) = some false)
    (xt_TooLarge_TooDeep : PySem.W.kitOne K (.ref 363) (.ref 344) = some false)
    (xt_TooLarge_TooLarge : PySem.W.kitOne K (.ref 363) (.ref 363) = some true)
    (xt_TooLarge_TooMany : PySem.W.kitOne K (.ref 363) (.ref 382) = some false)
    (xt_TooLarge_TooManyEdits : PySem.W.kitOne K (.ref 363) (.ref 394) = some false)
    (xt_TooLarge_TooRich : PySem.W.kitOne K (.ref 363) (.ref 413) = some false)
    (xt_TooLarge_SlipError : PySem.W.kitOne K (.ref 363) (.ref 24) = some true)
    {nm_TooMany q_TooMany : Str} {N_TooMany I_TooMany : Addr} {bs_TooMany : List Value} {sn_TooMany : List Str} {sub_TooMany : List Value} {ab_TooMany : Bool} {col_TooMany : Option Bool} {dd_TooMany od_TooMany an_TooMany : Option Addr} {m0_TooMany m1_TooMany m2_TooMany m3_TooMany m5_TooMany : Option Value} {sl_TooMany : Array (Option Value)} {oc_TooMany dc_TooMany pm_TooMany cd_TooMany ct_TooMany : Value} {p1_TooMany p2_TooMany q1_TooMany q2_TooMany q3_TooMany q4_TooMany : Pos}
    (xl_TooMany : K.lookup 382 = some (excClassObj nm_TooMany q_TooMany 382 N_TooMany bs_TooMany [.ref 24, .type "ValueError", .type "Exception", .type "BaseException", .type "object"] true sn_TooMany sub_TooMany ab_TooMany col_TooMany dd_TooMany m0_TooMany m1_TooMany m2_TooMany m3_TooMany m5_TooMany "ValueError.__new__"))
    (xsa_TooMany : PySem.W.findIn K (.ref 382) "__setattr__" = some (some (.builtin "object.__setattr__")))
    (xga_TooMany : PySem.W.findIn K (.ref 382) "__getattribute__" = some (some (.builtin "BaseException.__getattribute__")))
    (xgg_TooMany : PySem.W.findIn K (.ref 382) "__getattr__" = some none)
    (xha_TooMany : PySem.W.findIn K (.ref 382) "__class__" = some (some (.builtin "object.__class__")))
    (xhm_TooMany : PySem.W.mroIn K 382 (.type "object") = some true)
    (xf_TooMany_error : PySem.W.findIn K (.ref 382) "error" = some none)
    (xf_TooMany_index : PySem.W.findIn K (.ref 382) "index" = some none)
    (xf_TooMany_amount : PySem.W.findIn K (.ref 382) "amount" = some none)
    (xf_TooMany_house : PySem.W.findIn K (.ref 382) "house" = some none)
    (xf_TooMany_version : PySem.W.findIn K (.ref 382) "version" = some none)
    (xf_TooMany_limit : PySem.W.findIn K (.ref 382) "limit" = some none)
    (xi_TooMany : PySem.W.findIn K (.ref 382) "__init__" = some (some (.ref I_TooMany)))
    (xit_TooMany : PySem.W.typeIn K (.ref I_TooMany) = some (.type "function"))
    (xil_TooMany : K.lookup I_TooMany = some ⟨oc_TooMany, od_TooMany, .func (PySem.W.fnOf "__init__" "TooMany.__init__" (PySem.SlipX.iA_limit p1_TooMany p2_TooMany) (PySem.SlipX.iB_limit q1_TooMany q2_TooMany q3_TooMany q4_TooMany) PySem.SlipX.iS_limit .none .none dc_TooMany pm_TooMany an_TooMany cd_TooMany ct_TooMany), sl_TooMany⟩)
    (xic_TooMany : PySem.W.codeIn K cd_TooMany "TooMany.__init__" = true)
    (xk_TooMany : PySem.W.keepIn K (.ref 382) = true)
    (xe_TooMany : PySem.W.subIn K (.ref 382) (.type "BaseException") = some true)
    (xty_TooMany : PySem.W.typeIn K (.ref 382) = some (.type "type"))
    (xd_TooMany : PySem.W.hasDictIn K 382 = true)
    (xm_TooMany : PySem.W.subIn K (.ref 382) (.ref 24) = some true)
    (xv_TooMany : PySem.W.kitOne K (.ref 382) (.type "ValueError") = some true)
    (xt_TooMany_BadBatch : PySem.W.kitOne K (.ref 382) (.ref 37) = some false)
    (xt_TooMany_BadBook : PySem.W.kitOne K (.ref 382) (.ref 56) = some false)
    (xt_TooMany_BadPile : PySem.W.kitOne K (.ref 382) (.ref 75) = some false)
    (xt_TooMany_BadSlip : PySem.W.kitOne K (.ref 382) (.ref 94) = some false)
    (xt_TooMany_BadText : PySem.W.kitOne K (.ref 382) (.ref 113) = some false)
    (xt_TooMany_Busy : PySem.W.kitOne K (.ref 382) (.ref 125) = some false)
    (xt_TooMany_NoAmount : PySem.W.kitOne K (.ref 382) (.ref 144) = some false)
    (xt_TooMany_NoChoice : PySem.W.kitOne K (.ref 382) (.ref 156) = some false)
    (xt_TooMany_NoHouse : PySem.W.kitOne K (.ref 382) (.ref 175) = some false)
    (xt_TooMany_NoIndex : PySem.W.kitOne K (.ref 382) (.ref 194) = some false)
    (xt_TooMany_NoRing : PySem.W.kitOne K (.ref 382) (.ref 213) = some false)
    (xt_TooMany_NoSettlement : PySem.W.kitOne K (.ref 382) (.ref 232) = some false)
    (xt_TooMany_NotBelow : PySem.W.kitOne K (.ref 382) (.ref 244) = some false)
    (xt_TooMany_NothingToUndo : PySem.W.kitOne K (.ref 382) (.ref 256) = some false)
    (xt_TooMany_NoVersion : PySem.W.kitOne K (.ref 382) (.ref 275) = some false)
    (xt_TooMany_OtherBook : PySem.W.kitOne K (.ref 382) (.ref 287) = some false)
    (xt_TooMany_Overdrawn : PySem.W.kitOne K (.ref 382) (.ref 306) = some false)
    (xt_TooMany_Rejected : PySem.W.kitOne K (.ref 382) (.ref 325) = some false)
    (xt_TooMany_TooDeep : PySem.W.kitOne K (.ref 382) (.ref 344) = some false)
    (xt_TooMany_TooLarge : PySem.W.kitOne K (.ref 382) (.ref 363) = some false)
    (xt_TooMany_TooMany : PySem.W.kitOne K (.ref 382) (.ref 382) = some true)
    (xt_TooMany_TooManyEdits : PySem.W.kitOne K (.ref 382) (.ref 394) = some false)
    (xt_TooMany_TooRich : PySem.W.kitOne K (.ref 382) (.ref 413) = some false)
    (xt_TooMany_SlipError : PySem.W.kitOne K (.ref 382) (.ref 24) = some true)
    (xq_TooManyEdits : PySem.W.excIn K 394 [.type "ValueError", .type "Exception", .type "BaseException", .type "object"] "ValueError.__new__" = true)
    (xga_TooManyEdits : PySem.W.findIn K (.ref 394) "__getattribute__" = some (some (.builtin "BaseException.__getattribute__")))
    (xgg_TooManyEdits : PySem.W.findIn K (.ref 394) "__getattr__" = some none)
    (xha_TooManyEdits : PySem.W.findIn K (.ref 394) "__class__" = some (some (.builtin "object.__class__")))
    (xhm_TooManyEdits : PySem.W.mroIn K 394 (.type "object") = some true)
    (xf_TooManyEdits_error : PySem.W.findIn K (.ref 394) "error" = some none)
    (xf_TooManyEdits_index : PySem.W.findIn K (.ref 394) "index" = some none)
    (xf_TooManyEdits_amount : PySem.W.findIn K (.ref 394) "amount" = some none)
    (xf_TooManyEdits_house : PySem.W.findIn K (.ref 394) "house" = some none)
    (xf_TooManyEdits_version : PySem.W.findIn K (.ref 394) "version" = some none)
    (xf_TooManyEdits_limit : PySem.W.findIn K (.ref 394) "limit" = some none)
    (xk_TooManyEdits : PySem.W.keepIn K (.ref 394) = true)
    (xe_TooManyEdits : PySem.W.subIn K (.ref 394) (.type "BaseException") = some true)
    (xty_TooManyEdits : PySem.W.typeIn K (.ref 394) = some (.type "type"))
    (xd_TooManyEdits : PySem.W.hasDictIn K 394 = true)
    (xm_TooManyEdits : PySem.W.subIn K (.ref 394) (.ref 24) = some true)
    (xv_TooManyEdits : PySem.W.kitOne K (.ref 394) (.type "ValueError") = some true)
    (xt_TooManyEdits_BadBatch : PySem.W.kitOne K (.ref 394) (.ref 37) = some false)
    (xt_TooManyEdits_BadBook : PySem.W.kitOne K (.ref 394) (.ref 56) = some false)
    (xt_TooManyEdits_BadPile : PySem.W.kitOne K (.ref 394) (.ref 75) = some false)
    (xt_TooManyEdits_BadSlip : PySem.W.kitOne K (.ref 394) (.ref 94) = some false)
    (xt_TooManyEdits_BadText : PySem.W.kitOne K (.ref 394) (.ref 113) = some false)
    (xt_TooManyEdits_Busy : PySem.W.kitOne K (.ref 394) (.ref 125) = some false)
    (xt_TooManyEdits_NoAmount : PySem.W.kitOne K (.ref 394) (.ref 144) = some false)
    (xt_TooManyEdits_NoChoice : PySem.W.kitOne K (.ref 394) (.ref 156) = some false)
    (xt_TooManyEdits_NoHouse : PySem.W.kitOne K (.ref 394) (.ref 175) = some false)
    (xt_TooManyEdits_NoIndex : PySem.W.kitOne K (.ref 394) (.ref 194) = some false)
    (xt_TooManyEdits_NoRing : PySem.W.kitOne K (.ref 394) (.ref 213) = some false)
    (xt_TooManyEdits_NoSettlement : PySem.W.kitOne K (.ref 394) (.ref 232) = some false)
    (xt_TooManyEdits_NotBelow : PySem.W.kitOne K (.ref 394) (.ref 244) = some false)
    (xt_TooManyEdits_NothingToUndo : PySem.W.kitOne K (.ref 394) (.ref 256) = some false)
    (xt_TooManyEdits_NoVersion : PySem.W.kitOne K (.ref 394) (.ref 275) = some false)
    (xt_TooManyEdits_OtherBook : PySem.W.kitOne K (.ref 394) (.ref 287) = some false)
    (xt_TooManyEdits_Overdrawn : PySem.W.kitOne K (.ref 394) (.ref 306) = some false)
    (xt_TooManyEdits_Rejected : PySem.W.kitOne K (.ref 394) (.ref 325) = some false)
    (xt_TooManyEdits_TooDeep : PySem.W.kitOne K (.ref 394) (.ref 344) = some false)
    (xt_TooManyEdits_TooLarge : PySem.W.kitOne K (.ref 394) (.ref 363) = some false)
    (xt_TooManyEdits_TooMany : PySem.W.kitOne K (.ref 394) (.ref 382) = some false)
    (xt_TooManyEdits_TooManyEdits : PySem.W.kitOne K (.ref 394) (.ref 394) = some true)
    (xt_TooManyEdits_TooRich : PySem.W.kitOne K (.ref 394) (.ref 413) = some false)
    (xt_TooManyEdits_SlipError : PySem.W.kitOne K (.ref 394) (.ref 24) = some true)
    {nm_TooRich q_TooRich : Str} {N_TooRich I_TooRich : Addr} {bs_TooRich : List Value} {sn_TooRich : List Str} {sub_TooRich : List Value} {ab_TooRich : Bool} {col_TooRich : Option Bool} {dd_TooRich od_TooRich an_TooRich : Option Addr} {m0_TooRich m1_TooRich m2_TooRich m3_TooRich m5_TooRich : Option Value} {sl_TooRich : Array (Option Value)} {oc_TooRich dc_TooRich pm_TooRich cd_TooRich ct_TooRich : Value} {p1_TooRich p2_TooRich q1_TooRich q2_TooRich q3_TooRich q4_TooRich : Pos}
    (xl_TooRich : K.lookup 413 = some (excClassObj nm_TooRich q_TooRich 413 N_TooRich bs_TooRich [.ref 24, .type "ValueError", .type "Exception", .type "BaseException", .type "object"] true sn_TooRich sub_TooRich ab_TooRich col_TooRich dd_TooRich m0_TooRich m1_TooRich m2_TooRich m3_TooRich m5_TooRich "ValueError.__new__"))
    (xsa_TooRich : PySem.W.findIn K (.ref 413) "__setattr__" = some (some (.builtin "object.__setattr__")))
    (xga_TooRich : PySem.W.findIn K (.ref 413) "__getattribute__" = some (some (.builtin "BaseException.__getattribute__")))
    (xgg_TooRich : PySem.W.findIn K (.ref 413) "__getattr__" = some none)
    (xha_TooRich : PySem.W.findIn K (.ref 413) "__class__" = some (some (.builtin "object.__class__")))
    (xhm_TooRich : PySem.W.mroIn K 413 (.type "object") = some true)
    (xf_TooRich_error : PySem.W.findIn K (.ref 413) "error" = some none)
    (xf_TooRich_index : PySem.W.findIn K (.ref 413) "index" = some none)
    (xf_TooRich_amount : PySem.W.findIn K (.ref 413) "amount" = some none)
    (xf_TooRich_house : PySem.W.findIn K (.ref 413) "house" = some none)
    (xf_TooRich_version : PySem.W.findIn K (.ref 413) "version" = some none)
    (xf_TooRich_limit : PySem.W.findIn K (.ref 413) "limit" = some none)
    (xi_TooRich : PySem.W.findIn K (.ref 413) "__init__" = some (some (.ref I_TooRich)))
    (xit_TooRich : PySem.W.typeIn K (.ref I_TooRich) = some (.type "function"))
    (xil_TooRich : K.lookup I_TooRich = some ⟨oc_TooRich, od_TooRich, .func (PySem.W.fnOf "__init__" "TooRich.__init__" (PySem.SlipX.iA_house p1_TooRich p2_TooRich) (PySem.SlipX.iB_house q1_TooRich q2_TooRich q3_TooRich q4_TooRich) PySem.SlipX.iS_house .none .none dc_TooRich pm_TooRich an_TooRich cd_TooRich ct_TooRich), sl_TooRich⟩)
    (xic_TooRich : PySem.W.codeIn K cd_TooRich "TooRich.__init__" = true)
    (xk_TooRich : PySem.W.keepIn K (.ref 413) = true)
    (xe_TooRich : PySem.W.subIn K (.ref 413) (.type "BaseException") = some true)
    (xty_TooRich : PySem.W.typeIn K (.ref 413) = some (.type "type"))
    (xd_TooRich : PySem.W.hasDictIn K 413 = true)
    (xm_TooRich : PySem.W.subIn K (.ref 413) (.ref 24) = some true)
    (xv_TooRich : PySem.W.kitOne K (.ref 413) (.type "ValueError") = some true)
    (xt_TooRich_BadBatch : PySem.W.kitOne K (.ref 413) (.ref 37) = some false)
    (xt_TooRich_BadBook : PySem.W.kitOne K (.ref 413) (.ref 56) = some false)
    (xt_TooRich_BadPile : PySem.W.kitOne K (.ref 413) (.ref 75) = some false)
    (xt_TooRich_BadSlip : PySem.W.kitOne K (.ref 413) (.ref 94) = some false)
    (xt_TooRich_BadText : PySem.W.kitOne K (.ref 413) (.ref 113) = some false)
    (xt_TooRich_Busy : PySem.W.kitOne K (.ref 413) (.ref 125) = some false)
    (xt_TooRich_NoAmount : PySem.W.kitOne K (.ref 413) (.ref 144) = some false)
    (xt_TooRich_NoChoice : PySem.W.kitOne K (.ref 413) (.ref 156) = some false)
    (xt_TooRich_NoHouse : PySem.W.kitOne K (.ref 413) (.ref 175) = some false)
    (xt_TooRich_NoIndex : PySem.W.kitOne K (.ref 413) (.ref 194) = some false)
    (xt_TooRich_NoRing : PySem.W.kitOne K (.ref 413) (.ref 213) = some false)
    (xt_TooRich_NoSettlement : PySem.W.kitOne K (.ref 413) (.ref 232) = some false)
    (xt_TooRich_NotBelow : PySem.W.kitOne K (.ref 413) (.ref 244) = some false)
    (xt_TooRich_NothingToUndo : PySem.W.kitOne K (.ref 413) (.ref 256) = some false)
    (xt_TooRich_NoVersion : PySem.W.kitOne K (.ref 413) (.ref 275) = some false)
    (xt_TooRich_OtherBook : PySem.W.kitOne K (.ref 413) (.ref 287) = some false)
    (xt_TooRich_Overdrawn : PySem.W.kitOne K (.ref 413) (.ref 306) = some false)
    (xt_TooRich_Rejected : PySem.W.kitOne K (.ref 413) (.ref 325) = some false)
    (xt_TooRich_TooDeep : PySem.W.kitOne K (.ref 413) (.ref 344) = some false)
    (xt_TooRich_TooLarge : PySem.W.kitOne K (.ref 413) (.ref 363) = some false)
    (xt_TooRich_TooMany : PySem.W.kitOne K (.ref 413) (.ref 382) = some false)
    (xt_TooRich_TooManyEdits : PySem.W.kitOne K (.ref 413) (.ref 394) = some false)
    (xt_TooRich_TooRich : PySem.W.kitOne K (.ref 413) (.ref 413) = some true)
    (xt_TooRich_SlipError : PySem.W.kitOne K (.ref 413) (.ref 24) = some true) :
    ∃ fd : FuncData, (∀ (s : Shared) (u : Value), BindsTo s fd ⟨[u], []⟩ [("_law_script", u)]) ∧ ∀ base : Heap, K.In base → base.Ns mainGlobals mg → (∃ o, base.get? sysModules = some o) → HFn P w K mg base 4 fa fd ["_law_script"] (spLaw K) := by
  have hl := PySem.W.mg_of X N a8
  rw [hfa] at hl
  cases hl
  have XX_BadBatch : XCls K mg 24 xms xfs "BadBatch" 37 := ⟨PySem.W.mg_of X N xa_BadBatch, ⟨xga_BadBatch, xgg_BadBatch, xe_BadBatch, xd_BadBatch, xha_BadBatch, xhn, xht, xhm_BadBatch⟩, PySem.W.exm_ref xbE xbD xbT xm_BadBatch, xv_BadBatch, by
    intro m hm
    simp only [xms, xmt, List.map_cons, List.map_nil, List.mem_cons, List.not_mem_nil, or_false] at hm
    rcases hm with rfl | rfl | rfl | rfl | rfl | rfl | rfl | rfl | rfl | rfl | rfl | rfl | rfl | rfl | rfl | rfl | rfl | rfl | rfl | rfl | rfl | rfl | rfl | rfl
    · exact ⟨37, PySem.W.mg_of X N xa_BadBatch, xt_BadBatch_BadBatch⟩
    · exact ⟨56, PySem.W.mg_of X N xa_BadBook, xt_BadBatch_BadBook⟩
    · exact ⟨75, PySem.W.mg_of X N xa_BadPile, xt_BadBatch_BadPile⟩
    · exact ⟨94, PySem.W.mg_of X N xa_BadSlip, xt_BadBatch_BadSlip⟩
    · exact ⟨113, PySem.W.mg_of X N xa_BadText, xt_BadBatch_BadText⟩
    · exact ⟨125, PySem.W.mg_of X N xa_Busy, xt_BadBatch_Busy⟩
    · exact ⟨144, PySem.W.mg_of X N xa_NoAmount, xt_BadBatch_NoAmount⟩
    · exact ⟨156, PySem.W.mg_of X N xa_NoChoice, xt_BadBatch_NoChoice⟩
    · exact ⟨175, PySem.W.mg_of X N xa_NoHouse, xt_BadBatch_NoHouse⟩
    · exact ⟨194, PySem.W.mg_of X N xa_NoIndex, xt_BadBatch_NoIndex⟩
    · exact ⟨213, PySem.W.mg_of X N xa_NoRing, xt_BadBatch_NoRing⟩
    · exact ⟨232, PySem.W.mg_of X N xa_NoSettlement, xt_BadBatch_NoSettlement⟩
    · exact ⟨244, PySem.W.mg_of X N xa_NotBelow, xt_BadBatch_NotBelow⟩
    · exact ⟨256, PySem.W.mg_of X N xa_NothingToUndo, xt_BadBatch_NothingToUndo⟩
    · exact ⟨275, PySem.W.mg_of X N xa_NoVersion, xt_BadBatch_NoVersion⟩
    · exact ⟨287, PySem.W.mg_of X N xa_OtherBook, xt_BadBatch_OtherBook⟩
    · exact ⟨306, PySem.W.mg_of X N xa_Overdrawn, xt_BadBatch_Overdrawn⟩
    · exact ⟨325, PySem.W.mg_of X N xa_Rejected, xt_BadBatch_Rejected⟩
    · exact ⟨344, PySem.W.mg_of X N xa_TooDeep, xt_BadBatch_TooDeep⟩
    · exact ⟨363, PySem.W.mg_of X N xa_TooLarge, xt_BadBatch_TooLarge⟩
    · exact ⟨382, PySem.W.mg_of X N xa_TooMany, xt_BadBatch_TooMany⟩
    · exact ⟨394, PySem.W.mg_of X N xa_TooManyEdits, xt_BadBatch_TooManyEdits⟩
    · exact ⟨413, PySem.W.mg_of X N xa_TooRich, xt_BadBatch_TooRich⟩
    · exact ⟨24, PySem.W.mg_of X N xa_SlipError, xt_BadBatch_SlipError⟩, by
    intro f hf
    simp only [xfs, List.mem_cons, List.not_mem_nil, or_false] at hf
    rcases hf with rfl | rfl | rfl | rfl | rfl | rfl
    · exact xf_BadBatch_error
    · exact xf_BadBatch_index
    · exact xf_BadBatch_amount
    · exact xf_BadBatch_house
    · exact xf_BadBatch_version
    · exact xf_BadBatch_limit⟩
  have XX_BadBook : XCls K mg 24 xms xfs "BadBook" 56 := ⟨PySem.W.mg_of X N xa_BadBook, ⟨xga_BadBook, xgg_BadBook, xe_BadBook, xd_BadBook, xha_BadBook, xhn, xht, xhm_BadBook⟩, PySem.W.exm_ref xbE xbD xbT xm_BadBook, xv_BadBook, by
    intro m hm
    simp only [xms, xmt, List.map_cons, List.map_nil, List.mem_cons, List.not_mem_nil, or_false] at hm
    rcases hm with rfl | rfl | rfl | rfl | rfl | rfl | rfl | rfl | rfl | rfl | rfl | rfl | rfl | rfl | rfl | rfl | rfl | rfl | rfl | rfl | rfl | rfl | rfl | rfl
    · exact ⟨37, PySem.W.mg_of X N xa_BadBatch, xt_BadBook_BadBatch⟩
    · exact ⟨56, PySem.W.mg_of X N xa_BadBook, xt_BadBook_BadBook⟩
    · exact ⟨75, PySem.W.mg_of X N xa_BadPile, xt_BadBook_BadPile⟩
    · exact ⟨94, PySem.W.mg_of X N xa_BadSlip, xt_BadBook_BadSlip⟩
    · exact ⟨113, PySem.W.mg_of X N xa_BadText, xt_BadBook_BadText⟩
    · exact ⟨125, PySem.W.mg_of X N xa_Busy, xt_BadBook_Busy⟩
    · exact ⟨144, PySem.W.mg_of X N xa_NoAmount, xt_BadBook_NoAmount⟩
    · exact ⟨156, PySem.W.mg_of X N xa_NoChoice, xt_BadBook_NoChoice⟩
    · exact ⟨175, PySem.W.mg_of X N xa_NoHouse, xt_BadBook_NoHouse⟩
    · exact ⟨194, PySem.W.mg_of X N xa_NoIndex, xt_BadBook_NoIndex⟩
    · exact ⟨213, PySem.W.mg_of X N xa_NoRing, xt_BadBook_NoRing⟩
    · exact ⟨232, PySem.W.mg_of X N xa_NoSettlement, xt_BadBook_NoSettlement⟩
    · exact ⟨244, PySem.W.mg_of X N xa_NotBelow, xt_BadBook_NotBelow⟩
    · exact ⟨256, PySem.W.mg_of X N xa_NothingToUndo, xt_BadBook_NothingToUndo⟩
    · exact ⟨275, PySem.W.mg_of X N xa_NoVersion, xt_BadBook_NoVersion⟩
    · exact ⟨287, PySem.W.mg_of X N xa_OtherBook, xt_BadBook_OtherBook⟩
    · exact ⟨306, PySem.W.mg_of X N xa_Overdrawn, xt_BadBook_Overdrawn⟩
    · exact ⟨325, PySem.W.mg_of X N xa_Rejected, xt_BadBook_Rejected⟩
    · exact ⟨344, PySem.W.mg_of X N xa_TooDeep, xt_BadBook_TooDeep⟩
    · exact ⟨363, PySem.W.mg_of X N xa_TooLarge, xt_BadBook_TooLarge⟩
    · exact ⟨382, PySem.W.mg_of X N xa_TooMany, xt_BadBook_TooMany⟩
    · exact ⟨394, PySem.W.mg_of X N xa_TooManyEdits, xt_BadBook_TooManyEdits⟩
    · exact ⟨413, PySem.W.mg_of X N xa_TooRich, xt_BadBook_TooRich⟩
    · exact ⟨24, PySem.W.mg_of X N xa_SlipError, xt_BadBook_SlipError⟩, by
    intro f hf
    simp only [xfs, List.mem_cons, List.not_mem_nil, or_false] at hf
    rcases hf with rfl | rfl | rfl | rfl | rfl | rfl
    · exact xf_BadBook_error
    · exact xf_BadBook_index
    · exact xf_BadBook_amount
    · exact xf_BadBook_house
    · exact xf_BadBook_version
    · exact xf_BadBook_limit⟩
  have XX_BadPile : XCls K mg 24 xms xfs "BadPile" 75 := ⟨PySem.W.mg_of X N xa_BadPile, ⟨xga_BadPile, xgg_BadPile, xe_BadPile, xd_BadPile, xha_BadPile, xhn, xht, xhm_BadPile⟩, PySem.W.exm_ref xbE xbD xbT xm_BadPile, xv_BadPile, by
    intro m hm
    simp only [xms, xmt, List.map_cons, List.map_nil, List.mem_cons, List.not_mem_nil, or_false] at hm
    rcases hm with rfl | rfl | rfl | rfl | rfl | rfl | rfl | rfl | rfl | rfl | rfl | rfl | rfl | rfl | rfl | rfl | rfl | rfl | rfl | rfl | rfl | rfl | rfl | rfl
    · exact ⟨37, PySem.W.mg_of X N xa_BadBatch, xt_BadPile_BadBatch⟩
    · exact ⟨56, PySem.W.mg_of X N xa_BadBook, xt_BadPile_BadBook⟩
    · exact ⟨75, PySem.W.mg_of X N xa_BadPile, xt_BadPile_BadPile⟩
    · exact ⟨94, PySem.W.mg_of X N xa_BadSlip, xt_BadPile_BadSlip⟩
    · exact ⟨113, PySem.W.mg_of X N xa_BadText, xt_BadPile_BadText⟩
    · exact ⟨125, PySem.W.mg_of X N xa_Busy, xt_BadPile_Busy⟩
    · exact ⟨144, PySem.W.mg_of X N xa_NoAmount, xt_BadPile_NoAmount⟩
    · exact ⟨156, PySem.W.mg_of X N xa_NoChoice, xt_BadPile_NoChoice⟩
    · exact ⟨175, PySem.W.mg_of X N xa_NoHouse, xt_BadPile_NoHouse⟩
    · exact ⟨194, PySem.W.mg_of X N xa_NoIndex, xt_BadPile_NoIndex⟩
    · exact ⟨213, PySem.W.mg_of X N xa_NoRing, xt_BadPile_NoRing⟩
    · exact ⟨232, PySem.W.mg_of X N xa_NoSettlement, xt_BadPile_NoSettlement⟩
    · exact ⟨244, PySem.W.mg_of X N xa_NotBelow, xt_BadPile_NotBelow⟩
    · exact ⟨256, PySem.W.mg_of X N xa_NothingToUndo, xt_BadPile_NothingToUndo⟩
    · exact ⟨275, PySem.W.mg_of X N xa_NoVersion, xt_BadPile_NoVersion⟩
    · exact ⟨287, PySem.W.mg_of X N xa_OtherBook, xt_BadPile_OtherBook⟩
    · exact ⟨306, PySem.W.mg_of X N xa_Overdrawn, xt_BadPile_Overdrawn⟩
    · exact ⟨325, PySem.W.mg_of X N xa_Rejected, xt_BadPile_Rejected⟩
    · exact ⟨344, PySem.W.mg_of X N xa_TooDeep, xt_BadPile_TooDeep⟩
    · exact ⟨363, PySem.W.mg_of X N xa_TooLarge, xt_BadPile_TooLarge⟩
    · exact ⟨382, PySem.W.mg_of X N xa_TooMany, xt_BadPile_TooMany⟩
    · exact ⟨394, PySem.W.mg_of X N xa_TooManyEdits, xt_BadPile_TooManyEdits⟩
    · exact ⟨413, PySem.W.mg_of X N xa_TooRich, xt_BadPile_TooRich⟩
    · exact ⟨24, PySem.W.mg_of X N xa_SlipError, xt_BadPile_SlipError⟩, by
    intro f hf
    simp only [xfs, List.mem_cons, List.not_mem_nil, or_false] at hf
    rcases hf with rfl | rfl | rfl | rfl | rfl | rfl
    · exact xf_BadPile_error
    · exact xf_BadPile_index
    · exact xf_BadPile_amount
    · exact xf_BadPile_house
    · exact xf_BadPile_version
    · exact xf_BadPile_limit⟩
  have XX_BadSlip : XCls K mg 24 xms xfs "BadSlip" 94 := ⟨PySem.W.mg_of X N xa_BadSlip, ⟨xga_BadSlip, xgg_BadSlip, xe_BadSlip, xd_BadSlip, xha_BadSlip, xhn, xht, xhm_BadSlip⟩, PySem.W.exm_ref xbE xbD xbT xm_BadSlip, xv_BadSlip, by
    intro m hm
    simp only [xms, xmt, List.map_cons, List.map_nil, List.mem_cons, List.not_mem_nil, or_false] at hm
    rcases hm with rfl | rfl | rfl | rfl | rfl | rfl | rfl | rfl | rfl | rfl | rfl | rfl | rfl | rfl | rfl | rfl | rfl | rfl | rfl | rfl | rfl | rfl | rfl | rfl
    · exact ⟨37, PySem.W.mg_of X N xa_BadBatch, xt_BadSlip_BadBatch⟩
    · exact ⟨56, PySem.W.mg_of X N xa_BadBook, xt_BadSlip_BadBook⟩
    · exact ⟨75, PySem.W.mg_of X N xa_BadPile, xt_BadSlip_BadPile⟩
    · exact ⟨94, PySem.W.mg_of X N xa_BadSlip, xt_BadSlip_BadSlip⟩
    · exact ⟨113, PySem.W.mg_of X N xa_BadText, xt_BadSlip_BadText⟩
    · exact ⟨125, PySem.W.mg_of X N xa_Busy, xt_BadSlip_Busy⟩
    · exact ⟨144, PySem.W.mg_of X N xa_NoAmount, xt_BadSlip_NoAmount⟩
    · exact ⟨156, PySem.W.mg_of X N xa_NoChoice, xt_BadSlip_NoChoice⟩
    · exact ⟨175, PySem.W.mg_of X N xa_NoHouse, xt_BadSlip_NoHouse⟩
    · exact ⟨194, PySem.W.mg_of X N xa_NoIndex, xt_BadSlip_NoIndex⟩
    · exact ⟨213, PySem.W.mg_of X N xa_NoRing, xt_BadSlip_NoRing⟩
    · exact ⟨232, PySem.W.mg_of X N xa_NoSettlement, xt_BadSlip_NoSettlement⟩
    · exact ⟨244, PySem.W.mg_of X N xa_NotBelow, xt_BadSlip_NotBelow⟩
    · exact ⟨256, PySem.W.mg_of X N xa_NothingToUndo, xt_BadSlip_NothingToUndo⟩
    · exact ⟨275, PySem.W.mg_of X N xa_NoVersion, xt_BadSlip_NoVersion⟩
    · exact ⟨287, PySem.W.mg_of X N xa_OtherBook, xt_BadSlip_OtherBook⟩
    · exact ⟨306, PySem.W.mg_of X N xa_Overdrawn, xt_BadSlip_Overdrawn⟩
    · exact ⟨325, PySem.W.mg_of X N xa_Rejected, xt_BadSlip_Rejected⟩
    · exact ⟨344, PySem.W.mg_of X N xa_TooDeep, xt_BadSlip_TooDeep⟩
    · exact ⟨363, PySem.W.mg_of X N xa_TooLarge, xt_BadSlip_TooLarge⟩
    · exact ⟨382, PySem.W.mg_of X N xa_TooMany, xt_BadSlip_TooMany⟩
    · exact ⟨394, PySem.W.mg_of X N xa_TooManyEdits, xt_BadSlip_TooManyEdits⟩
    · exact ⟨413, PySem.W.mg_of X N xa_TooRich, xt_BadSlip_TooRich⟩
    · exact ⟨24, PySem.W.mg_of X N xa_SlipError, xt_BadSlip_SlipError⟩, by
    intro f hf
    simp only [xfs, List.mem_cons, List.not_mem_nil, or_false] at hf
    rcases hf with rfl | rfl | rfl | rfl | rfl | rfl
    · exact xf_BadSlip_error
    · exact xf_BadSlip_index
    · exact xf_BadSlip_amount
    · exact xf_BadSlip_house
    · exact xf_BadSlip_version
    · exact xf_BadSlip_limit⟩
  have XX_BadText : XCls K mg 24 xms xfs "BadText" 113 := ⟨PySem.W.mg_of X N xa_BadText, ⟨xga_BadText, xgg_BadText, xe_BadText, xd_BadText, xha_BadText, xhn, xht, xhm_BadText⟩, PySem.W.exm_ref xbE xbD xbT xm_BadText, xv_BadText, by
    intro m hm
    simp only [xms, xmt, List.map_cons, List.map_nil, List.mem_cons, List.not_mem_nil, or_false] at hm
    rcases hm with rfl | rfl | rfl | rfl | rfl | rfl | rfl | rfl | rfl | rfl | rfl | rfl | rfl | rfl | rfl | rfl | rfl | rfl | rfl | rfl | rfl | rfl | rfl | rfl
    · exact ⟨37, PySem.W.mg_of X N xa_BadBatch, xt_BadText_BadBatch⟩
    · exact ⟨56, PySem.W.mg_of X N xa_BadBook, xt_BadText_BadBook⟩
    · exact ⟨75, PySem.W.mg_of X N xa_BadPile, xt_BadText_BadPile⟩
    · exact ⟨94, PySem.W.mg_of X N xa_BadSlip, xt_BadText_BadSlip⟩
    · exact ⟨113, PySem.W.mg_of X N xa_BadText, xt_BadText_BadText⟩
    · exact ⟨125, PySem.W.mg_of X N xa_Busy, xt_BadText_Busy⟩
    · exact ⟨144, PySem.W.mg_of X N xa_NoAmount, xt_BadText_NoAmount⟩
    · exact ⟨156, PySem.W.mg_of X N xa_NoChoice, xt_BadText_NoChoice⟩
    · exact ⟨175, PySem.W.mg_of X N xa_NoHouse, xt_BadText_NoHouse⟩
    · exact ⟨194, PySem.W.mg_of X N xa_NoIndex, xt_BadText_NoIndex⟩
    · exact ⟨213, PySem.W.mg_of X N xa_NoRing, xt_BadText_NoRing⟩
    · exact ⟨232, PySem.W.mg_of X N xa_NoSettlement, xt_BadText_NoSettlement⟩
    · exact ⟨244, PySem.W.mg_of X N xa_NotBelow, xt_BadText_NotBelow⟩
    · exact ⟨256, PySem.W.mg_of X N xa_NothingToUndo, xt_BadText_NothingToUndo⟩
    · exact ⟨275, PySem.W.mg_of X N xa_NoVersion, xt_BadText_NoVersion⟩
    · exact ⟨287, PySem.W.mg_of X N xa_OtherBook, xt_BadText_OtherBook⟩
    · exact ⟨306, PySem.W.mg_of X N xa_Overdrawn, xt_BadText_Overdrawn⟩
    · exact ⟨325, PySem.W.mg_of X N xa_Rejected, xt_BadText_Rejected⟩
    · exact ⟨344, PySem.W.mg_of X N xa_TooDeep, xt_BadText_TooDeep⟩
    · exact ⟨363, PySem.W.mg_of X N xa_TooLarge, xt_BadText_TooLarge⟩
    · exact ⟨382, PySem.W.mg_of X N xa_TooMany, xt_BadText_TooMany⟩
    · exact ⟨394, PySem.W.mg_of X N xa_TooManyEdits, xt_BadText_TooManyEdits⟩
    · exact ⟨413, PySem.W.mg_of X N xa_TooRich, xt_BadText_TooRich⟩
    · exact ⟨24, PySem.W.mg_of X N xa_SlipError, xt_BadText_SlipError⟩, by
    intro f hf
    simp only [xfs, List.mem_cons, List.not_mem_nil, or_false] at hf
    rcases hf with rfl | rfl | rfl | rfl | rfl | rfl
    · exact xf_BadText_error
    · exact xf_BadText_index
    · exact xf_BadText_amount
    · exact xf_BadText_house
    · exact xf_BadText_version
    · exact xf_BadText_limit⟩
  have XX_Busy : XCls K mg 24 xms xfs "Busy" 125 := ⟨PySem.W.mg_of X N xa_Busy, ⟨xga_Busy, xgg_Busy, xe_Busy, xd_Busy, xha_Busy, xhn, xht, xhm_Busy⟩, PySem.W.exm_ref xbE xbD xbT xm_Busy, xv_Busy, by
    intro m hm
    simp only [xms, xmt, List.map_cons, List.map_nil, List.mem_cons, List.not_mem_nil, or_false] at hm
    rcases hm with rfl | rfl | rfl | rfl | rfl | rfl | rfl | rfl | rfl | rfl | rfl | rfl | rfl | rfl | rfl | rfl | rfl | rfl | rfl | rfl | rfl | rfl | rfl | rfl
    · exact ⟨37, PySem.W.mg_of X N xa_BadBatch, xt_Busy_BadBatch⟩
    · exact ⟨56, PySem.W.mg_of X N xa_BadBook, xt_Busy_BadBook⟩
    · exact ⟨75, PySem.W.mg_of X N xa_BadPile, xt_Busy_BadPile⟩
    · exact ⟨94, PySem.W.mg_of X N xa_BadSlip, xt_Busy_BadSlip⟩
    · exact ⟨113, PySem.W.mg_of X N xa_BadText, xt_Busy_BadText⟩
    · exact ⟨125, PySem.W.mg_of X N xa_Busy, xt_Busy_Busy⟩
    · exact ⟨144, PySem.W.mg_of X N xa_NoAmount, xt_Busy_NoAmount⟩
    · exact ⟨156, PySem.W.mg_of X N xa_NoChoice, xt_Busy_NoChoice⟩
    · exact ⟨175, PySem.W.mg_of X N xa_NoHouse, xt_Busy_NoHouse⟩
    · exact ⟨194, PySem.W.mg_of X N xa_NoIndex, xt_Busy_NoIndex⟩
    · exact ⟨213, PySem.W.mg_of X N xa_NoRing, xt_Busy_NoRing⟩
    · exact ⟨232, PySem.W.mg_of X N xa_NoSettlement, xt_Busy_NoSettlement⟩
    · exact ⟨244, PySem.W.mg_of X N xa_NotBelow, xt_Busy_NotBelow⟩
    · exact ⟨256, PySem.W.mg_of X N xa_NothingToUndo, xt_Busy_NothingToUndo⟩
    · exact ⟨275, PySem.W.mg_of X N xa_NoVersion, xt_Busy_NoVersion⟩
    · exact ⟨287, PySem.W.mg_of X N xa_OtherBook, xt_Busy_OtherBook⟩
    · exact ⟨306, PySem.W.mg_of X N xa_Overdrawn, xt_Busy_Overdrawn⟩
    · exact ⟨325, PySem.W.mg_of X N xa_Rejected, xt_Busy_Rejected⟩
    · exact ⟨344, PySem.W.mg_of X N xa_TooDeep, xt_Busy_TooDeep⟩
    · exact ⟨363, PySem.W.mg_of X N xa_TooLarge, xt_Busy_TooLarge⟩
    · exact ⟨382, PySem.W.mg_of X N xa_TooMany, xt_Busy_TooMany⟩
    · exact ⟨394, PySem.W.mg_of X N xa_TooManyEdits, xt_Busy_TooManyEdits⟩
    · exact ⟨413, PySem.W.mg_of X N xa_TooRich, xt_Busy_TooRich⟩
    · exact ⟨24, PySem.W.mg_of X N xa_SlipError, xt_Busy_SlipError⟩, by
    intro f hf
    simp only [xfs, List.mem_cons, List.not_mem_nil, or_false] at hf
    rcases hf with rfl | rfl | rfl | rfl | rfl | rfl
    · exact xf_Busy_error
    · exact xf_Busy_index
    · exact xf_Busy_amount
    · exact xf_Busy_house
    · exact xf_Busy_version
    · exact xf_Busy_limit⟩
  have XX_NoAmount : XCls K mg 24 xms xfs "NoAmount" 144 := ⟨PySem.W.mg_of X N xa_NoAmount, ⟨xga_NoAmount, xgg_NoAmount, xe_NoAmount, xd_NoAmount, xha_NoAmount, xhn, xht, xhm_NoAmount⟩, PySem.W.exm_ref xbE xbD xbT xm_NoAmount, xv_NoAmount, by
    intro m hm
    simp only [xms, xmt, List.map_cons, List.map_nil, List.mem_cons, List.not_mem_nil, or_false] at hm
    rcases hm with rfl | rfl | rfl | rfl | rfl | rfl | rfl | rfl | rfl | rfl | rfl | rfl | rfl | rfl | rfl | rfl | rfl | rfl | rfl | rfl | rfl | rfl | rfl | rfl
    · exact ⟨37, PySem.W.mg_of X N xa_BadBatch, xt_NoAmount_BadBatch⟩
    · exact ⟨56, PySem.W.mg_of X N xa_BadBook, xt_NoAmount_BadBook⟩
    · exact ⟨75, PySem.W.mg_of X N xa_BadPile, xt_NoAmount_BadPile⟩
    · exact ⟨94, PySem.W.mg_of X N xa_BadSlip, xt_NoAmount_BadSlip⟩
    · exact ⟨113, PySem.W.mg_of X N xa_BadText, xt_NoAmount_BadText⟩
    · exact ⟨125, PySem.W.mg_of X N xa_Busy, xt_NoAmount_Busy⟩
    · exact ⟨144, PySem.W.mg_of X N xa_NoAmount, xt_NoAmount_NoAmount⟩
    · exact ⟨156, PySem.W.mg_of X N xa_NoChoice, xt_NoAmount_NoChoice⟩
    · exact ⟨175, PySem.W.mg_of X N xa_NoHouse, xt_NoAmount_NoHouse⟩
    · exact ⟨194, PySem.W.mg_of X N xa_NoIndex, xt_NoAmount_NoIndex⟩
    · exact ⟨213, PySem.W.mg_of X N xa_NoRing, xt_NoAmount_NoRing⟩
    · exact ⟨232, PySem.W.mg_of X N xa_NoSettlement, xt_NoAmount_NoSettlement⟩
    · exact ⟨244, PySem.W.mg_of X N xa_NotBelow, xt_NoAmount_NotBelow⟩
    · exact ⟨256, PySem.W.mg_of X N xa_NothingToUndo, xt_NoAmount_NothingToUndo⟩
    · exact ⟨275, PySem.W.mg_of X N xa_NoVersion, xt_NoAmount_NoVersion⟩
    · exact ⟨287, PySem.W.mg_of X N xa_OtherBook, xt_NoAmount_OtherBook⟩
    · exact ⟨306, PySem.W.mg_of X N xa_Overdrawn, xt_NoAmount_Overdrawn⟩
    · exact ⟨325, PySem.W.mg_of X N xa_Rejected, xt_NoAmount_Rejected⟩
    · exact ⟨344, PySem.W.mg_of X N xa_TooDeep, xt_NoAmount_TooDeep⟩
    · exact ⟨363, PySem.W.mg_of X N xa_TooLarge, xt_NoAmount_TooLarge⟩
    · exact ⟨382, PySem.W.mg_of X N xa_TooMany, xt_NoAmount_TooMany⟩
    · exact ⟨394, PySem.W.mg_of X N xa_TooManyEdits, xt_NoAmount_TooManyEdits⟩
    · exact ⟨413, PySem.W.mg_of X N xa_TooRich, xt_NoAmount_TooRich⟩
    · exact ⟨24, PySem.W.mg_of X N xa_SlipError, xt_NoAmount_SlipError⟩, by
    intro f hf
    simp only [xfs, List.mem_cons, List.not_mem_nil, or_false] at hf
    rcases hf with rfl | rfl | rfl | rfl | rfl | rfl
    · exact xf_NoAmount_error
    · exact xf_NoAmount_index
    · exact xf_NoAmount_amount
    · exact xf_NoAmount_house
    · exact xf_NoAmount_version
    · exact xf_NoAmount_limit⟩
  have XX_NoChoice : XCls K mg 24 xms xfs "NoChoice" 156 := ⟨PySem.W.mg_of X N xa_NoChoice, ⟨xga_NoChoice, xgg_NoChoice, xe_NoChoice, xd_NoChoice, xha_NoChoice, xhn, xht, xhm_NoChoice⟩, PySem.W.exm_ref xbE xbD xbT xm_NoChoice, xv_NoChoice, by
    intro m hm
    simp only [xms, xmt, List.map_cons, List.map_nil, List.mem_cons, List.not_mem_nil, or_false] at hm
    rcases hm with rfl | rfl | rfl | rfl | rfl | rfl | rfl | rfl | rfl | rfl | rfl | rfl | rfl | rfl | rfl | rfl | rfl | rfl | rfl | rfl | rfl | rfl | rfl | rfl
    · exact ⟨37, PySem.W.mg_of X N xa_BadBatch, xt_NoChoice_BadBatch⟩
    · exact ⟨56, PySem.W.mg_of X N xa_BadBook, xt_NoChoice_BadBook⟩
    · exact ⟨75, PySem.W.mg_of X N xa_BadPile, xt_NoChoice_BadPile⟩
    · exact ⟨94, PySem.W.mg_of X N xa_BadSlip, xt_NoChoice_BadSlip⟩
    · exact ⟨113, PySem.W.mg_of X N xa_BadText, xt_NoChoice_BadText⟩
    · exact ⟨125, PySem.W.mg_of X N xa_Busy, xt_NoChoice_Busy⟩
    · exact ⟨144, PySem.W.mg_of X N xa_NoAmount, xt_NoChoice_NoAmount⟩
    · exact ⟨156, PySem.W.mg_of X N xa_NoChoice, xt_NoChoice_NoChoice⟩
    · exact ⟨175, PySem.W.mg_of X N xa_NoHouse, xt_NoChoice_NoHouse⟩
    · exact ⟨194, PySem.W.mg_of X N xa_NoIndex, xt_NoChoice_NoIndex⟩
    · exact ⟨213, PySem.W.mg_of X N xa_NoRing, xt_NoChoice_NoRing⟩
    · exact ⟨232, PySem.W.mg_of X N xa_NoSettlement, xt_NoChoice_NoSettlement⟩
    · exact ⟨244, PySem.W.mg_of X N xa_NotBelow, xt_NoChoice_NotBelow⟩
    · exact ⟨256, PySem.W.mg_of X N xa_NothingToUndo, xt_NoChoice_NothingToUndo⟩
    · exact ⟨275, PySem.W.mg_of X N xa_NoVersion, xt_NoChoice_NoVersion⟩
    · exact ⟨287, PySem.W.mg_of X N xa_OtherBook, xt_NoChoice_OtherBook⟩
    · exact ⟨306, PySem.W.mg_of X N xa_Overdrawn, xt_NoChoice_Overdrawn⟩
    · exact ⟨325, PySem.W.mg_of X N xa_Rejected, xt_NoChoice_Rejected⟩
    · exact ⟨344, PySem.W.mg_of X N xa_TooDeep, xt_NoChoice_TooDeep⟩
    · exact ⟨363, PySem.W.mg_of X N xa_TooLarge, xt_NoChoice_TooLarge⟩
    · exact ⟨382, PySem.W.mg_of X N xa_TooMany, xt_NoChoice_TooMany⟩
    · exact ⟨394, PySem.W.mg_of X N xa_TooManyEdits, xt_NoChoice_TooManyEdits⟩
    · exact ⟨413, PySem.W.mg_of X N xa_TooRich, xt_NoChoice_TooRich⟩
    · exact ⟨24, PySem.W.mg_of X N xa_SlipError, xt_NoChoice_SlipError⟩, by
    intro f hf
    simp only [xfs, List.mem_cons, List.not_mem_nil, or_false] at hf
    rcases hf with rfl | rfl | rfl | rfl | rfl | rfl
    · exact xf_NoChoice_error
    · exact xf_NoChoice_index
    · exact xf_NoChoice_amount
    · exact xf_NoChoice_house
    · exact xf_NoChoice_version
    · exact xf_NoChoice_limit⟩
  have XX_NoHouse : XCls K mg 24 xms xfs "NoHouse" 175 := ⟨PySem.W.mg_of X N xa_NoHouse, ⟨xga_NoHouse, xgg_NoHouse, xe_NoHouse, xd_NoHouse, xha_NoHouse, xhn, xht, xhm_NoHouse⟩, PySem.W.exm_ref xbE xbD xbT xm_NoHouse, xv_NoHouse, by
    intro m hm
    simp only [xms, xmt, List.map_cons, List.map_nil, List.mem_cons, List.not_mem_nil, or_false] at hm
    rcases hm with rfl | rfl | rfl | rfl | rfl | rfl | rfl | rfl | rfl | rfl | rfl | rfl | rfl | rfl | rfl | rfl | rfl | rfl | rfl | rfl | rfl | rfl | rfl | rfl
    · exact ⟨37, PySem.W.mg_of X N xa_BadBatch, xt_NoHouse_BadBatch⟩
    · exact ⟨56, PySem.W.mg_of X N xa_BadBook, xt_NoHouse_BadBook⟩
    · exact ⟨75, PySem.W.mg_of X N xa_BadPile, xt_NoHouse_BadPile⟩
    · exact ⟨94, PySem.W.mg_of X N xa_BadSlip, xt_NoHouse_BadSlip⟩
    · exact ⟨113, PySem.W.mg_of X N xa_BadText, xt_NoHouse_BadText⟩
    · exact ⟨125, PySem.W.mg_of X N xa_Busy, xt_NoHouse_Busy⟩
    · exact ⟨144, PySem.W.mg_of X N xa_NoAmount, xt_NoHouse_NoAmount⟩
    · exact ⟨156, PySem.W.mg_of X N xa_NoChoice, xt_NoHouse_NoChoice⟩
    · exact ⟨175, PySem.W.mg_of X N xa_NoHouse, xt_NoHouse_NoHouse⟩
    · exact ⟨194, PySem.W.mg_of X N xa_NoIndex, xt_NoHouse_NoIndex⟩
    · exact ⟨213, PySem.W.mg_of X N xa_NoRing, xt_NoHouse_NoRing⟩
    · exact ⟨232, PySem.W.mg_of X N xa_NoSettlement, xt_NoHouse_NoSettlement⟩
    · exact ⟨244, PySem.W.mg_of X N xa_NotBelow, xt_NoHouse_NotBelow⟩
    · exact ⟨256, PySem.W.mg_of X N xa_NothingToUndo, xt_NoHouse_NothingToUndo⟩
    · exact ⟨275, PySem.W.mg_of X N xa_NoVersion, xt_NoHouse_NoVersion⟩
    · exact ⟨287, PySem.W.mg_of X N xa_OtherBook, xt_NoHouse_OtherBook⟩
    · exact ⟨306, PySem.W.mg_of X N xa_Overdrawn, xt_NoHouse_Overdrawn⟩
    · exact ⟨325, PySem.W.mg_of X N xa_Rejected, xt_NoHouse_Rejected⟩
    · exact ⟨344, PySem.W.mg_of X N xa_TooDeep, xt_NoHouse_TooDeep⟩
    · exact ⟨363, PySem.W.mg_of X N xa_TooLarge, xt_NoHouse_TooLarge⟩
    · exact ⟨382, PySem.W.mg_of X N xa_TooMany, xt_NoHouse_TooMany⟩
    · exact ⟨394, PySem.W.mg_of X N xa_TooManyEdits, xt_NoHouse_TooManyEdits⟩
    · exact ⟨413, PySem.W.mg_of X N xa_TooRich, xt_NoHouse_TooRich⟩
    · exact ⟨24, PySem.W.mg_of X N xa_SlipError, xt_NoHouse_SlipError⟩, by
    intro f hf
    simp only [xfs, List.mem_cons, List.not_mem_nil, or_false] at hf
    rcases hf with rfl | rfl | rfl | rfl | rfl | rfl
    · exact xf_NoHouse_error
    · exact xf_NoHouse_index
    · exact xf_NoHouse_amount
    · exact xf_NoHouse_house
    · exact xf_NoHouse_version
    · exact xf_NoHouse_limit⟩
  have XX_NoIndex : XCls K mg 24 xms xfs "NoIndex" 194 := ⟨PySem.W.mg_of X N xa_NoIndex, ⟨xga_NoIndex, xgg_NoIndex, xe_NoIndex, xd_NoIndex, xha_NoIndex, xhn, xht, xhm_NoIndex⟩, PySem.W.exm_ref xbE xbD xbT xm_NoIndex, xv_NoIndex, by
    intro m hm
    simp only [xms, xmt, List.map_cons, List.map_nil, List.mem_cons, List.not_mem_nil, or_false] at hm
    rcases hm with rfl | rfl | rfl | rfl | rfl | rfl | rfl | rfl | rfl | rfl | rfl | rfl | rfl | rfl | rfl | rfl | rfl | rfl | rfl | rfl | rfl | rfl | rfl | rfl
    · exact ⟨37, PySem.W.mg_of X N xa_BadBatch, xt_NoIndex_BadBatch⟩
    · exact ⟨56, PySem.W.mg_of X N xa_BadBook, xt_NoIndex_BadBook⟩
    · exact ⟨75, PySem.W.mg_of X N xa_BadPile, xt_NoIndex_BadPile⟩
    · exact ⟨94, PySem.W.mg_of X N xa_BadSlip, xt_NoIndex_BadSlip⟩
    · exact ⟨113, PySem.W.mg_of X N xa_BadText, xt_NoIndex_BadText⟩
    · exact ⟨125, PySem.W.mg_of X N xa_Busy, xt_NoIndex_Busy⟩
    · exact ⟨144, PySem.W.mg_of X N xa_NoAmount, xt_NoIndex_NoAmount⟩
    · exact ⟨156, PySem.W.mg_of X N xa_NoChoice, xt_NoIndex_NoChoice⟩
    · exact ⟨175, PySem.W.mg_of X N xa_NoHouse, xt_NoIndex_NoHouse⟩
    · exact ⟨194, PySem.W.mg_of X N xa_NoIndex, xt_NoIndex_NoIndex⟩
    · exact ⟨213, PySem.W.mg_of X N xa_NoRing, xt_NoIndex_NoRing⟩
    · exact ⟨232, PySem.W.mg_of X N xa_NoSettlement, xt_NoIndex_NoSettlement⟩
    · exact ⟨244, PySem.W.mg_of X N xa_NotBelow, xt_NoIndex_NotBelow⟩
    · exact ⟨256, PySem.W.mg_of X N xa_NothingToUndo, xt_NoIndex_NothingToUndo⟩
    · exact ⟨275, PySem.W.mg_of X N xa_NoVersion, xt_NoIndex_NoVersion⟩
    · exact ⟨287, PySem.W.mg_of X N xa_OtherBook, xt_NoIndex_OtherBook⟩
    · exact ⟨306, PySem.W.mg_of X N xa_Overdrawn, xt_NoIndex_Overdrawn⟩
    · exact ⟨325, PySem.W.mg_of X N xa_Rejected, xt_NoIndex_Rejected⟩
    · exact ⟨344, PySem.W.mg_of X N xa_TooDeep, xt_NoIndex_TooDeep⟩
    · exact ⟨363, PySem.W.mg_of X N xa_TooLarge, xt_NoIndex_TooLarge⟩
    · exact ⟨382, PySem.W.mg_of X N xa_TooMany, xt_NoIndex_TooMany⟩
    · exact ⟨394, PySem.W.mg_of X N xa_TooManyEdits, xt_NoIndex_TooManyEdits⟩
    · exact ⟨413, PySem.W.mg_of X N xa_TooRich, xt_NoIndex_TooRich⟩
    · exact ⟨24, PySem.W.mg_of X N xa_SlipError, xt_NoIndex_SlipError⟩, by
    intro f hf
    simp only [xfs, List.mem_cons, List.not_mem_nil, or_false] at hf
    rcases hf with rfl | rfl | rfl | rfl | rfl | rfl
    · exact xf_NoIndex_error
    · exact xf_NoIndex_index
    · exact xf_NoIndex_amount
    · exact xf_NoIndex_house
    · exact xf_NoIndex_version
    · exact xf_NoIndex_limit⟩
  have XX_NoRing : XCls K mg 24 xms xfs "NoRing" 213 := ⟨PySem.W.mg_of X N xa_NoRing, ⟨xga_NoRing, xgg_NoRing, xe_NoRing, xd_NoRing, xha_NoRing, xhn, xht, xhm_NoRing⟩, PySem.W.exm_ref xbE xbD xbT xm_NoRing, xv_NoRing, by
    intro m hm
    simp only [xms, xmt, List.map_cons, List.map_nil, List.mem_cons, List.not_mem_nil, or_false] at hm
    rcases hm with rfl | rfl | rfl | rfl | rfl | rfl | rfl | rfl | rfl | rfl | rfl | rfl | rfl | rfl | rfl | rfl | rfl | rfl | rfl | rfl | rfl | rfl | rfl | rfl
    · exact ⟨37, PySem.W.mg_of X N xa_BadBatch, xt_NoRing_BadBatch⟩
    · exact ⟨56, PySem.W.mg_of X N xa_BadBook, xt_NoRing_BadBook⟩
    · exact ⟨75, PySem.W.mg_of X N xa_BadPile, xt_NoRing_BadPile⟩
    · exact ⟨94, PySem.W.mg_of X N xa_BadSlip, xt_NoRing_BadSlip⟩
    · exact ⟨113, PySem.W.mg_of X N xa_BadText, xt_NoRing_BadText⟩
    · exact ⟨125, PySem.W.mg_of X N xa_Busy, xt_NoRing_Busy⟩
    · exact ⟨144, PySem.W.mg_of X N xa_NoAmount, xt_NoRing_NoAmount⟩
    · exact ⟨156, PySem.W.mg_of X N xa_NoChoice, xt_NoRing_NoChoice⟩
    · exact ⟨175, PySem.W.mg_of X N xa_NoHouse, xt_NoRing_NoHouse⟩
    · exact ⟨194, PySem.W.mg_of X N xa_NoIndex, xt_NoRing_NoIndex⟩
    · exact ⟨213, PySem.W.mg_of X N xa_NoRing, xt_NoRing_NoRing⟩
    · exact ⟨232, PySem.W.mg_of X N xa_NoSettlement, xt_NoRing_NoSettlement⟩
    · exact ⟨244, PySem.W.mg_of X N xa_NotBelow, xt_NoRing_NotBelow⟩
    · exact ⟨256, PySem.W.mg_of X N xa_NothingToUndo, xt_NoRing_NothingToUndo⟩
    · exact ⟨275, PySem.W.mg_of X N xa_NoVersion, xt_NoRing_NoVersion⟩
    · exact ⟨287, PySem.W.mg_of X N xa_OtherBook, xt_NoRing_OtherBook⟩
    · exact ⟨306, PySem.W.mg_of X N xa_Overdrawn, xt_NoRing_Overdrawn⟩
    · exact ⟨325, PySem.W.mg_of X N xa_Rejected, xt_NoRing_Rejected⟩
    · exact ⟨344, PySem.W.mg_of X N xa_TooDeep, xt_NoRing_TooDeep⟩
    · exact ⟨363, PySem.W.mg_of X N xa_TooLarge, xt_NoRing_TooLarge⟩
    · exact ⟨382, PySem.W.mg_of X N xa_TooMany, xt_NoRing_TooMany⟩
    · exact ⟨394, PySem.W.mg_of X N xa_TooManyEdits, xt_NoRing_TooManyEdits⟩
    · exact ⟨413, PySem.W.mg_of X N xa_TooRich, xt_NoRing_TooRich⟩
    · exact ⟨24, PySem.W.mg_of X N xa_SlipError, xt_NoRing_SlipError⟩, by
    intro f hf
    simp only [xfs, List.mem_cons, List.not_mem_nil, or_false] at hf
    rcases hf with rfl | rfl | rfl | rfl | rfl | rfl
    · exact xf_NoRing_error
    · exact xf_NoRing_index
    · exact xf_NoRing_amount
    · exact xf_NoRing_house
    · exact xf_NoRing_version
    · exact xf_NoRing_limit⟩
  have XX_NoSettlement : XCls K mg 24 xms xfs "NoSettlement" 232 := ⟨PySem.W.mg_of X N xa_NoSettlement, ⟨xga_NoSettlement, xgg_NoSettlement, xe_NoSettlement, xd_NoSettlement, xha_NoSettlement, xhn, xht, xhm_NoSettlement⟩, PySem.W.exm_ref xbE xbD xbT xm_NoSettlement, xv_NoSettlement, by
    intro m hm
    simp only [xms, xmt, List.map_cons, List.map_nil, List.mem_cons, List.not_mem_nil, or_false] at hm
    rcases hm with rfl | rfl | rfl | rfl | rfl | rfl | rfl | rfl | rfl | rfl | rfl | rfl | rfl | rfl | rfl | rfl | rfl | rfl | rfl | rfl | rfl | rfl | rfl | rfl
    · exact ⟨37, PySem.W.mg_of X N xa_BadBatch, xt_NoSettlement_BadBatch⟩
    · exact ⟨56, PySem.W.mg_of X N xa_BadBook, xt_NoSettlement_BadBook⟩
    · exact ⟨75, PySem.W.mg_of X N xa_BadPile, xt_NoSettlement_BadPile⟩
    · exact ⟨94, PySem.W.mg_of X N xa_BadSlip, xt_NoSettlement_BadSlip⟩
    · exact ⟨113, PySem.W.mg_of X N xa_BadText, xt_NoSettlement_BadText⟩
    · exact ⟨125, PySem.W.mg_of X N xa_Busy, xt_NoSettlement_Busy⟩
    · exact ⟨144, PySem.W.mg_of X N xa_NoAmount, xt_NoSettlement_NoAmount⟩
    · exact ⟨156, PySem.W.mg_of X N xa_NoChoice, xt_NoSettlement_NoChoice⟩
    · exact ⟨175, PySem.W.mg_of X N xa_NoHouse, xt_NoSettlement_NoHouse⟩
    · exact ⟨194, PySem.W.mg_of X N xa_NoIndex, xt_NoSettlement_NoIndex⟩
    · exact ⟨213, PySem.W.mg_of X N xa_NoRing, xt_NoSettlement_NoRing⟩
    · exact ⟨232, PySem.W.mg_of X N xa_NoSettlement, xt_NoSettlement_NoSettlement⟩
    · exact ⟨244, PySem.W.mg_of X N xa_NotBelow, xt_NoSettlement_NotBelow⟩
    · exact ⟨256, PySem.W.mg_of X N xa_NothingToUndo, xt_NoSettlement_NothingToUndo⟩
    · exact ⟨275, PySem.W.mg_of X N xa_NoVersion, xt_NoSettlement_NoVersion⟩
    · exact ⟨287, PySem.W.mg_of X N xa_OtherBook, xt_NoSettlement_OtherBook⟩
    · exact ⟨306, PySem.W.mg_of X N xa_Overdrawn, xt_NoSettlement_Overdrawn⟩
    · exact ⟨325, PySem.W.mg_of X N xa_Rejected, xt_NoSettlement_Rejected⟩
    · exact ⟨344, PySem.W.mg_of X N xa_TooDeep, xt_NoSettlement_TooDeep⟩
    · exact ⟨363, PySem.W.mg_of X N xa_TooLarge, xt_NoSettlement_TooLarge⟩
    · exact ⟨382, PySem.W.mg_of X N xa_TooMany, xt_NoSettlement_TooMany⟩
    · exact ⟨394, PySem.W.mg_of X N xa_TooManyEdits, xt_NoSettlement_TooManyEdits⟩
    · exact ⟨413, PySem.W.mg_of X N xa_TooRich, xt_NoSettlement_TooRich⟩
    · exact ⟨24, PySem.W.mg_of X N xa_SlipError, xt_NoSettlement_SlipError⟩, by
    intro f hf
    simp only [xfs, List.mem_cons, List.not_mem_nil, or_false] at hf
    rcases hf with rfl | rfl | rfl | rfl | rfl | rfl
    · exact xf_NoSettlement_error
    · exact xf_NoSettlement_index
    · exact xf_NoSettlement_amount
    · exact xf_NoSettlement_house
    · exact xf_NoSettlement_version
    · exact xf_NoSettlement_limit⟩
  have XX_NotBelow : XCls K mg 24 xms xfs "NotBelow" 244 := ⟨PySem.W.mg_of X N xa_NotBelow, ⟨xga_NotBelow, xgg_NotBelow, xe_NotBelow, xd_NotBelow, xha_NotBelow, xhn, xht, xhm_NotBelow⟩, PySem.W.exm_ref xbE xbD xbT xm_NotBelow, xv_NotBelow, by
    intro m hm
    simp only [xms, xmt, List.map_cons, List.map_nil, List.mem_cons, List.not_mem_nil, or_false] at hm
    rcases hm with rfl | rfl | rfl | rfl | rfl | rfl | rfl | rfl | rfl | rfl | rfl | rfl | rfl | rfl | rfl | rfl | rfl | rfl | rfl | rfl | rfl | rfl | rfl | rfl
    · exact ⟨37, PySem.W.mg_of X N xa_BadBatch, xt_NotBelow_BadBatch⟩
    · exact ⟨56, PySem.W.mg_of X N xa_BadBook, xt_NotBelow_BadBook⟩
    · exact ⟨75, PySem.W.mg_of X N xa_BadPile, xt_NotBelow_BadPile⟩
    · exact ⟨94, PySem.W.mg_of X N xa_BadSlip, xt_NotBelow_BadSlip⟩
    · exact ⟨113, PySem.W.mg_of X N xa_BadText, xt_NotBelow_BadText⟩
    · exact ⟨125, PySem.W.mg_of X N xa_Busy, xt_NotBelow_Busy⟩
    · exact ⟨144, PySem.W.mg_of X N xa_NoAmount, xt_NotBelow_NoAmount⟩
    · exact ⟨156, PySem.W.mg_of X N xa_NoChoice, xt_NotBelow_NoChoice⟩
    · exact ⟨175, PySem.W.mg_of X N xa_NoHouse, xt_NotBelow_NoHouse⟩
    · exact ⟨194, PySem.W.mg_of X N xa_NoIndex, xt_NotBelow_NoIndex⟩
    · exact ⟨213, PySem.W.mg_of X N xa_NoRing, xt_NotBelow_NoRing⟩
    · exact ⟨232, PySem.W.mg_of X N xa_NoSettlement, xt_NotBelow_NoSettlement⟩
    · exact ⟨244, PySem.W.mg_of X N xa_NotBelow, xt_NotBelow_NotBelow⟩
    · exact ⟨256, PySem.W.mg_of X N xa_NothingToUndo, xt_NotBelow_NothingToUndo⟩
    · exact ⟨275, PySem.W.mg_of X N xa_NoVersion, xt_NotBelow_NoVersion⟩
    · exact ⟨287, PySem.W.mg_of X N xa_OtherBook, xt_NotBelow_OtherBook⟩
    · exact ⟨306, PySem.W.mg_of X N xa_Overdrawn, xt_NotBelow_Overdrawn⟩
    · exact ⟨325, PySem.W.mg_of X N xa_Rejected, xt_NotBelow_Rejected⟩
    · exact ⟨344, PySem.W.mg_of X N xa_TooDeep, xt_NotBelow_TooDeep⟩
    · exact ⟨363, PySem.W.mg_of X N xa_TooLarge, xt_NotBelow_TooLarge⟩
    · exact ⟨382, PySem.W.mg_of X N xa_TooMany, xt_NotBelow_TooMany⟩
    · exact ⟨394, PySem.W.mg_of X N xa_TooManyEdits, xt_NotBelow_TooManyEdits⟩
    · exact ⟨413, PySem.W.mg_of X N xa_TooRich, xt_NotBelow_TooRich⟩
    · exact ⟨24, PySem.W.mg_of X N xa_SlipError, xt_NotBelow_SlipError⟩, by
    intro f hf
    simp only [xfs, List.mem_cons, List.not_mem_nil, or_false] at hf
    rcases hf with rfl | rfl | rfl | rfl | rfl | rfl
    · exact xf_NotBelow_error
    · exact xf_NotBelow_index
    · exact xf_NotBelow_amount
    · exact xf_NotBelow_house
    · exact xf_NotBelow_version
    · exact xf_NotBelow_limit⟩
  have XX_NothingToUndo : XCls K mg 24 xms xfs "NothingToUndo" 256 := ⟨PySem.W.mg_of X N xa_NothingToUndo, ⟨xga_NothingToUndo, xgg_NothingToUndo, xe_NothingToUndo, xd_NothingToUndo, xha_NothingToUndo, xhn, xht, xhm_NothingToUndo⟩, PySem.W.exm_ref xbE xbD xbT xm_NothingToUndo, xv_NothingToUndo, by
    intro m hm
    simp only [xms, xmt, List.map_cons, List.map_nil, List.mem_cons, List.not_mem_nil, or_false] at hm
    rcases hm with rfl | rfl | rfl | rfl | rfl | rfl | rfl | rfl | rfl | rfl | rfl | rfl | rfl | rfl | rfl | rfl | rfl | rfl | rfl | rfl | rfl | rfl | rfl | rfl
    · exact ⟨37, PySem.W.mg_of X N xa_BadBatch, xt_NothingToUndo_BadBatch⟩
    · exact ⟨56, PySem.W.mg_of X N xa_BadBook, xt_NothingToUndo_BadBook⟩
    · exact ⟨75, PySem.W.mg_of X N xa_BadPile, xt_NothingToUndo_BadPile⟩
    · exact ⟨94, PySem.W.mg_of X N xa_BadSlip, xt_NothingToUndo_BadSlip⟩
    · exact ⟨113, PySem.W.mg_of X N xa_BadText, xt_NothingToUndo_BadText⟩
    · exact ⟨125, PySem.W.mg_of X N xa_Busy, xt_NothingToUndo_Busy⟩
    · exact ⟨144, PySem.W.mg_of X N xa_NoAmount, xt_NothingToUndo_NoAmount⟩
    · exact ⟨156, PySem.W.mg_of X N xa_NoChoice, xt_NothingToUndo_NoChoice⟩
    · exact ⟨175, PySem.W.mg_of X N xa_NoHouse, xt_NothingToUndo_NoHouse⟩
    · exact ⟨194, PySem.W.mg_of X N xa_NoIndex, xt_NothingToUndo_NoIndex⟩
    · exact ⟨213, PySem.W.mg_of X N xa_NoRing, xt_NothingToUndo_NoRing⟩
    · exact ⟨232, PySem.W.mg_of X N xa_NoSettlement, xt_NothingToUndo_NoSettlement⟩
    · exact ⟨244, PySem.W.mg_of X N xa_NotBelow, xt_NothingToUndo_NotBelow⟩
    · exact ⟨256, PySem.W.mg_of X N xa_NothingToUndo, xt_NothingToUndo_NothingToUndo⟩
    · exact ⟨275, PySem.W.mg_of X N xa_NoVersion, xt_NothingToUndo_NoVersion⟩
    · exact ⟨287, PySem.W.mg_of X N xa_OtherBook, xt_NothingToUndo_OtherBook⟩
    · exact ⟨306, PySem.W.mg_of X N xa_Overdrawn, xt_NothingToUndo_Overdrawn⟩
    · exact ⟨325, PySem.W.mg_of X N xa_Rejected, xt_NothingToUndo_Rejected⟩
    · exact ⟨344, PySem.W.mg_of X N xa_TooDeep, xt_NothingToUndo_TooDeep⟩
    · exact ⟨363, PySem.W.mg_of X N xa_TooLarge, xt_NothingToUndo_TooLarge⟩
    · exact ⟨382, PySem.W.mg_of X N xa_TooMany, xt_NothingToUndo_TooMany⟩
    · exact ⟨394, PySem.W.mg_of X N xa_TooManyEdits, xt_NothingToUndo_TooManyEdits⟩
    · exact ⟨413, PySem.W.mg_of X N xa_TooRich, xt_NothingToUndo_TooRich⟩
    · exact ⟨24, PySem.W.mg_of X N xa_SlipError, xt_NothingToUndo_SlipError⟩, by
    intro f hf
    simp only [xfs, List.mem_cons, List.not_mem_nil, or_false] at hf
    rcases hf with rfl | rfl | rfl | rfl | rfl | rfl
    · exact xf_NothingToUndo_error
    · exact xf_NothingToUndo_index
    · exact xf_NothingToUndo_amount
    · exact xf_NothingToUndo_house
    · exact xf_NothingToUndo_version
    · exact xf_NothingToUndo_limit⟩
  have XX_NoVersion : XCls K mg 24 xms xfs "NoVersion" 275 := ⟨PySem.W.mg_of X N xa_NoVersion, ⟨xga_NoVersion, xgg_NoVersion, xe_NoVersion, xd_NoVersion, xha_NoVersion, xhn, xht, xhm_NoVersion⟩, PySem.W.exm_ref xbE xbD xbT xm_NoVersion, xv_NoVersion, by
    intro m hm
    simp only [xms, xmt, List.map_cons, List.map_nil, List.mem_cons, List.not_mem_nil, or_false] at hm
    rcases hm with rfl | rfl | rfl | rfl | rfl | rfl | rfl | rfl | rfl | rfl | rfl | rfl | rfl | rfl | rfl | rfl | rfl | rfl | rfl | rfl | rfl | rfl | rfl | rfl
    · exact ⟨37, PySem.W.mg_of X N xa_BadBatch, xt_NoVersion_BadBatch⟩
    · exact ⟨56, PySem.W.mg_of X N xa_BadBook, xt_NoVersion_BadBook⟩
    · exact ⟨75, PySem.W.mg_of X N xa_BadPile, xt_NoVersion_BadPile⟩
    · exact ⟨94, PySem.W.mg_of X N xa_BadSlip, xt_NoVersion_BadSlip⟩
    · exact ⟨113, PySem.W.mg_of X N xa_BadText, xt_NoVersion_BadText⟩
    · exact ⟨125, PySem.W.mg_of X N xa_Busy, xt_NoVersion_Busy⟩
    · exact ⟨144, PySem.W.mg_of X N xa_NoAmount, xt_NoVersion_NoAmount⟩
    · exact ⟨156, PySem.W.mg_of X N xa_NoChoice, xt_NoVersion_NoChoice⟩
    · exact ⟨175, PySem.W.mg_of X N xa_NoHouse, xt_NoVersion_NoHouse⟩
    · exact ⟨194, PySem.W.mg_of X N xa_NoIndex, xt_NoVersion_NoIndex⟩
    · exact ⟨213, PySem.W.mg_of X N xa_NoRing, xt_NoVersion_NoRing⟩
    · exact ⟨232, PySem.W.mg_of X N xa_NoSettlement, xt_NoVersion_NoSettlement⟩
    · exact ⟨244, PySem.W.mg_of X N xa_NotBelow, xt_NoVersion_NotBelow⟩
    · exact ⟨256, PySem.W.mg_of X N xa_NothingToUndo, xt_NoVersion_NothingToUndo⟩
    · exact ⟨275, PySem.W.mg_of X N xa_NoVersion, xt_NoVersion_NoVersion⟩
    · exact ⟨287, PySem.W.mg_of X N xa_OtherBook, xt_NoVersion_OtherBook⟩
    · exact ⟨306, PySem.W.mg_of X N xa_Overdrawn, xt_NoVersion_Overdrawn⟩
    · exact ⟨325, PySem.W.mg_of X N xa_Rejected, xt_NoVersion_Rejected⟩
    · exact ⟨344, PySem.W.mg_of X N xa_TooDeep, xt_NoVersion_TooDeep⟩
    · exact ⟨363, PySem.W.mg_of X N xa_TooLarge, xt_NoVersion_TooLarge⟩
    · exact ⟨382, PySem.W.mg_of X N xa_TooMany, xt_NoVersion_TooMany⟩
    · exact ⟨394, PySem.W.mg_of X N xa_TooManyEdits, xt_NoVersion_TooManyEdits⟩
    · exact ⟨413, PySem.W.mg_of X N xa_TooRich, xt_NoVersion_TooRich⟩
    · exact ⟨24, PySem.W.mg_of X N xa_SlipError, xt_NoVersion_SlipError⟩, by
    intro f hf
    simp only [xfs, List.mem_cons, List.not_mem_nil, or_false] at hf
    rcases hf with rfl | rfl | rfl | rfl | rfl | rfl
    · exact xf_NoVersion_error
    · exact xf_NoVersion_index
    · exact xf_NoVersion_amount
    · exact xf_NoVersion_house
    · exact xf_NoVersion_version
    · exact xf_NoVersion_limit⟩
  have XX_OtherBook : XCls K mg 24 xms xfs "OtherBook" 287 := ⟨PySem.W.mg_of X N xa_OtherBook, ⟨xga_OtherBook, xgg_OtherBook, xe_OtherBook, xd_OtherBook, xha_OtherBook, xhn, xht, xhm_OtherBook⟩, PySem.W.exm_ref xbE xbD xbT xm_OtherBook, xv_OtherBook, by
    intro m hm
    simp only [xms, xmt, List.map_cons, List.map_nil, List.mem_cons, List.not_mem_nil, or_false] at hm
    rcases hm with rfl | rfl | rfl | rfl | rfl | rfl | rfl | rfl | rfl | rfl | rfl | rfl | rfl | rfl | rfl | rfl | rfl | rfl | rfl | rfl | rfl | rfl | rfl | rfl
    · exact ⟨37, PySem.W.mg_of X N xa_BadBatch, xt_OtherBook_BadBatch⟩
    · exact ⟨56, PySem.W.mg_of X N xa_BadBook, xt_OtherBook_BadBook⟩
    · exact ⟨75, PySem.W.mg_of X N xa_BadPile, xt_OtherBook_BadPile⟩
    · exact ⟨94, PySem.W.mg_of X N xa_BadSlip, xt_OtherBook_BadSlip⟩
    · exact ⟨113, PySem.W.mg_of X N xa_BadText, xt_OtherBook_BadText⟩
    · exact ⟨125, PySem.W.mg_of X N xa_Busy, xt_OtherBook_Busy⟩
    · exact ⟨144, PySem.W.mg_of X N xa_NoAmount, xt_OtherBook_NoAmount⟩
    · exact ⟨156, PySem.W.mg_of X N xa_NoChoice, xt_OtherBook_NoChoice⟩
    · exact ⟨175, PySem.W.mg_of X N xa_NoHouse, xt_OtherBook_NoHouse⟩
    · exact ⟨194, PySem.W.mg_of X N xa_NoIndex, xt_OtherBook_NoIndex⟩
    · exact ⟨213, PySem.W.mg_of X N xa_NoRing, xt_OtherBook_NoRing⟩
    · exact ⟨232, PySem.W.mg_of X N xa_NoSettlement, xt_OtherBook_NoSettlement⟩
    · exact ⟨244, PySem.W.mg_of X N xa_NotBelow, xt_OtherBook_NotBelow⟩
    · exact ⟨256, PySem.W.mg_of X N xa_NothingToUndo, xt_OtherBook_NothingToUndo⟩
    · exact ⟨275, PySem.W.mg_of X N xa_NoVersion, xt_OtherBook_NoVersion⟩
    · exact ⟨287, PySem.W.mg_of X N xa_OtherBook, xt_OtherBook_OtherBook⟩
    · exact ⟨306, PySem.W.mg_of X N xa_Overdrawn, xt_OtherBook_Overdrawn⟩
    · exact ⟨325, PySem.W.mg_of X N xa_Rejected, xt_OtherBook_Rejected⟩
    · exact ⟨344, PySem.W.mg_of X N xa_TooDeep, xt_OtherBook_TooDeep⟩
    · exact ⟨363, PySem.W.mg_of X N xa_TooLarge, xt_OtherBook_TooLarge⟩
    · exact ⟨382, PySem.W.mg_of X N xa_TooMany, xt_OtherBook_TooMany⟩
    · exact ⟨394, PySem.W.mg_of X N xa_TooManyEdits, xt_OtherBook_TooManyEdits⟩
    · exact ⟨413, PySem.W.mg_of X N xa_TooRich, xt_OtherBook_TooRich⟩
    · exact ⟨24, PySem.W.mg_of X N xa_SlipError, xt_OtherBook_SlipError⟩, by
    intro f hf
    simp only [xfs, List.mem_cons, List.not_mem_nil, or_false] at hf
    rcases hf with rfl | rfl | rfl | rfl | rfl | rfl
    · exact xf_OtherBook_error
    · exact xf_OtherBook_index
    · exact xf_OtherBook_amount
    · exact xf_OtherBook_house
    · exact xf_OtherBook_version
    · exact xf_OtherBook_limit⟩
  have XX_Overdrawn : XCls K mg 24 xms xfs "Overdrawn" 306 := ⟨PySem.W.mg_of X N xa_Overdrawn, ⟨xga_Overdrawn, xgg_Overdrawn, xe_Overdrawn, xd_Overdrawn, xha_Overdrawn, xhn, xht, xhm_Overdrawn⟩, PySem.W.exm_ref xbE xbD xbT xm_Overdrawn, xv_Overdrawn, by
    intro m hm
    simp only [xms, xmt, List.map_cons, List.map_nil, List.mem_cons, List.not_mem_nil, or_false] at hm
    rcases hm with rfl | rfl | rfl | rfl | rfl | rfl | rfl | rfl | rfl | rfl | rfl | rfl | rfl | rfl | rfl | rfl | rfl | rfl | rfl | rfl | rfl | rfl | rfl | rfl
    · exact ⟨37, PySem.W.mg_of X N xa_BadBatch, xt_Overdrawn_BadBatch⟩
    · exact ⟨56, PySem.W.mg_of X N xa_BadBook, xt_Overdrawn_BadBook⟩
    · exact ⟨75, PySem.W.mg_of X N xa_BadPile, xt_Overdrawn_BadPile⟩
    · exact ⟨94, PySem.W.mg_of X N xa_BadSlip, xt_Overdrawn_BadSlip⟩
    · exact ⟨113, PySem.W.mg_of X N xa_BadText, xt_Overdrawn_BadText⟩
    · exact ⟨125, PySem.W.mg_of X N xa_Busy, xt_Overdrawn_Busy⟩
    · exact ⟨144, PySem.W.mg_of X N xa_NoAmount, xt_Overdrawn_NoAmount⟩
    · exact ⟨156, PySem.W.mg_of X N xa_NoChoice, xt_Overdrawn_NoChoice⟩
    · exact ⟨175, PySem.W.mg_of X N xa_NoHouse, xt_Overdrawn_NoHouse⟩
    · exact ⟨194, PySem.W.mg_of X N xa_NoIndex, xt_Overdrawn_NoIndex⟩
    · exact ⟨213, PySem.W.mg_of X N xa_NoRing, xt_Overdrawn_NoRing⟩
    · exact ⟨232, PySem.W.mg_of X N xa_NoSettlement, xt_Overdrawn_NoSettlement⟩
    · exact ⟨244, PySem.W.mg_of X N xa_NotBelow, xt_Overdrawn_NotBelow⟩
    · exact ⟨256, PySem.W.mg_of X N xa_NothingToUndo, xt_Overdrawn_NothingToUndo⟩
    · exact ⟨275, PySem.W.mg_of X N xa_NoVersion, xt_Overdrawn_NoVersion⟩
    · exact ⟨287, PySem.W.mg_of X N xa_OtherBook, xt_Overdrawn_OtherBook⟩
    · exact ⟨306, PySem.W.mg_of X N xa_Overdrawn, xt_Overdrawn_Overdrawn⟩
    · exact ⟨325, PySem.W.mg_of X N xa_Rejected, xt_Overdrawn_Rejected⟩
    · exact ⟨344, PySem.W.mg_of X N xa_TooDeep, xt_Overdrawn_TooDeep⟩
    · exact ⟨363, PySem.W.mg_of X N xa_TooLarge, xt_Overdrawn_TooLarge⟩
    · exact ⟨382, PySem.W.mg_of X N xa_TooMany, xt_Overdrawn_TooMany⟩
    · exact ⟨394, PySem.W.mg_of X N xa_TooManyEdits, xt_Overdrawn_TooManyEdits⟩
    · exact ⟨413, PySem.W.mg_of X N xa_TooRich, xt_Overdrawn_TooRich⟩
    · exact ⟨24, PySem.W.mg_of X N xa_SlipError, xt_Overdrawn_SlipError⟩, by
    intro f hf
    simp only [xfs, List.mem_cons, List.not_mem_nil, or_false] at hf
    rcases hf with rfl | rfl | rfl | rfl | rfl | rfl
    · exact xf_Overdrawn_error
    · exact xf_Overdrawn_index
    · exact xf_Overdrawn_amount
    · exact xf_Overdrawn_house
    · exact xf_Overdrawn_version
    · exact xf_Overdrawn_limit⟩
  have XX_Rejected : XCls K mg 24 xms xfs "Rejected" 325 := ⟨PySem.W.mg_of X N xa_Rejected, ⟨xga_Rejected, xgg_Rejected, xe_Rejected, xd_Rejected, xha_Rejected, xhn, xht, xhm_Rejected⟩, PySem.W.exm_ref xbE xbD xbT xm_Rejected, xv_Rejected, by
    intro m hm
    simp only [xms, xmt, List.map_cons, List.map_nil, List.mem_cons, List.not_mem_nil, or_false] at hm
    rcases hm with rfl | rfl | rfl | rfl | rfl | rfl | rfl | rfl | rfl | rfl | rfl | rfl | rfl | rfl | rfl | rfl | rfl | rfl | rfl | rfl | rfl | rfl | rfl | rfl
    · exact ⟨37, PySem.W.mg_of X N xa_BadBatch, xt_Rejected_BadBatch⟩
    · exact ⟨56, PySem.W.mg_of X N xa_BadBook, xt_Rejected_BadBook⟩
    · exact ⟨75, PySem.W.mg_of X N xa_BadPile, xt_Rejected_BadPile⟩
    · exact ⟨94, PySem.W.mg_of X N xa_BadSlip, xt_Rejected_BadSlip⟩
    · exact ⟨113, PySem.W.mg_of X N xa_BadText, xt_Rejected_BadText⟩
    · exact ⟨125, PySem.W.mg_of X N xa_Busy, xt_Rejected_Busy⟩
    · exact ⟨144, PySem.W.mg_of X N xa_NoAmount, xt_Rejected_NoAmount⟩
    · exact ⟨156, PySem.W.mg_of X N xa_NoChoice, xt_Rejected_NoChoice⟩
    · exact ⟨175, PySem.W.mg_of X N xa_NoHouse, xt_Rejected_NoHouse⟩
    · exact ⟨194, PySem.W.mg_of X N xa_NoIndex, xt_Rejected_NoIndex⟩
    · exact ⟨213, PySem.W.mg_of X N xa_NoRing, xt_Rejected_NoRing⟩
    · exact ⟨232, PySem.W.mg_of X N xa_NoSettlement, xt_Rejected_NoSettlement⟩
    · exact ⟨244, PySem.W.mg_of X N xa_NotBelow, xt_Rejected_NotBelow⟩
    · exact ⟨256, PySem.W.mg_of X N xa_NothingToUndo, xt_Rejected_NothingToUndo⟩
    · exact ⟨275, PySem.W.mg_of X N xa_NoVersion, xt_Rejected_NoVersion⟩
    · exact ⟨287, PySem.W.mg_of X N xa_OtherBook, xt_Rejected_OtherBook⟩
    · exact ⟨306, PySem.W.mg_of X N xa_Overdrawn, xt_Rejected_Overdrawn⟩
    · exact ⟨325, PySem.W.mg_of X N xa_Rejected, xt_Rejected_Rejected⟩
    · exact ⟨344, PySem.W.mg_of X N xa_TooDeep, xt_Rejected_TooDeep⟩
    · exact ⟨363, PySem.W.mg_of X N xa_TooLarge, xt_Rejected_TooLarge⟩
    · exact ⟨382, PySem.W.mg_of X N xa_TooMany, xt_Rejected_TooMany⟩
    · exact ⟨394, PySem.W.mg_of X N xa_TooManyEdits, xt_Rejected_TooManyEdits⟩
    · exact ⟨413, PySem.W.mg_of X N xa_TooRich, xt_Rejected_TooRich⟩
    · exact ⟨24, PySem.W.mg_of X N xa_SlipError, xt_Rejected_SlipError⟩, by
    intro f hf
    simp only [xfs, List.mem_cons, List.not_mem_nil, or_false] at hf
    rcases hf with rfl | rfl | rfl | rfl | rfl | rfl
    · exact xf_Rejected_error
    · exact xf_Rejected_index
    · exact xf_Rejected_amount
    · exact xf_Rejected_house
    · exact xf_Rejected_version
    · exact xf_Rejected_limit⟩
  have XX_TooDeep : XCls K mg 24 xms xfs "TooDeep" 344 := ⟨PySem.W.mg_of X N xa_TooDeep, ⟨xga_TooDeep, xgg_TooDeep, xe_TooDeep, xd_TooDeep, xha_TooDeep, xhn, xht, xhm_TooDeep⟩, PySem.W.exm_ref xbE xbD xbT xm_TooDeep, xv_TooDeep, by
    intro m hm
    simp only [xms, xmt, List.map_cons, List.map_nil, List.mem_cons, List.not_mem_nil, or_false] at hm
    rcases hm with rfl | rfl | rfl | rfl | rfl | rfl | rfl | rfl | rfl | rfl | rfl | rfl | rfl | rfl | rfl | rfl | rfl | rfl | rfl | rfl | rfl | rfl | rfl | rfl
    · exact ⟨37, PySem.W.mg_of X N xa_BadBatch, xt_TooDeep_BadBatch⟩
    · exact ⟨56, PySem.W.mg_of X N xa_BadBook, xt_TooDeep_BadBook⟩
    · exact ⟨75, PySem.W.mg_of X N xa_BadPile, xt_TooDeep_BadPile⟩
    · exact ⟨94, PySem.W.mg_of X N xa_BadSlip, xt_TooDeep_BadSlip⟩
    · exact ⟨113, PySem.W.mg_of X N xa_BadText, xt_TooDeep_BadText⟩
    · exact ⟨125, PySem.W.mg_of X N xa_Busy, xt_TooDeep_Busy⟩
    · exact ⟨144, PySem.W.mg_of X N xa_NoAmount, xt_TooDeep_NoAmount⟩
    · exact ⟨156, PySem.W.mg_of X N xa_NoChoice, xt_TooDeep_NoChoice⟩
    · exact ⟨175, PySem.W.mg_of X N xa_NoHouse, xt_TooDeep_NoHouse⟩
    · exact ⟨194, PySem.W.mg_of X N xa_NoIndex, xt_TooDeep_NoIndex⟩
    · exact ⟨213, PySem.W.mg_of X N xa_NoRing, xt_TooDeep_NoRing⟩
    · exact ⟨232, PySem.W.mg_of X N xa_NoSettlement, xt_TooDeep_NoSettlement⟩
    · exact ⟨244, PySem.W.mg_of X N xa_NotBelow, xt_TooDeep_NotBelow⟩
    · exact ⟨256, PySem.W.mg_of X N xa_NothingToUndo, xt_TooDeep_NothingToUndo⟩
    · exact ⟨275, PySem.W.mg_of X N xa_NoVersion, xt_TooDeep_NoVersion⟩
    · exact ⟨287, PySem.W.mg_of X N xa_OtherBook, xt_TooDeep_OtherBook⟩
    · exact ⟨306, PySem.W.mg_of X N xa_Overdrawn, xt_TooDeep_Overdrawn⟩
    · exact ⟨325, PySem.W.mg_of X N xa_Rejected, xt_TooDeep_Rejected⟩
    · exact ⟨344, PySem.W.mg_of X N xa_TooDeep, xt_TooDeep_TooDeep⟩
    · exact ⟨363, PySem.W.mg_of X N xa_TooLarge, xt_TooDeep_TooLarge⟩
    · exact ⟨382, PySem.W.mg_of X N xa_TooMany, xt_TooDeep_TooMany⟩
    · exact ⟨394, PySem.W.mg_of X N xa_TooManyEdits, xt_TooDeep_TooManyEdits⟩
    · exact ⟨413, PySem.W.mg_of X N xa_TooRich, xt_TooDeep_TooRich⟩
    · exact ⟨24, PySem.W.mg_of X N xa_SlipError, xt_TooDeep_SlipError⟩, by
    intro f hf
    simp only [xfs, List.mem_cons, List.not_mem_nil, or_false] at hf
    rcases hf with rfl | rfl | rfl | rfl | rfl | rfl
    · exact xf_TooDeep_error
    · exact xf_TooDeep_index
    · exact xf_TooDeep_amount
    · exact xf_TooDeep_house
    · exact xf_TooDeep_version
    · exact xf_TooDeep_limit⟩
  have XX_TooLarge : XCls K mg 24 xms xfs "TooLarge" 363 := ⟨PySem.W.mg_of X N xa_TooLarge, ⟨xga_TooLarge, xgg_TooLarge, xe_TooLarge, xd_TooLarge, xha_TooLarge, xhn, xht, xhm_TooLarge⟩, PySem.W.exm_ref xbE xbD xbT xm_TooLarge, xv_TooLarge, by
    intro m hm
    simp only [xms, xmt, List.map_cons, List.map_nil, List.mem_cons, List.not_mem_nil, or_false] at hm
    rcases hm with rfl | rfl | rfl | rfl | rfl | rfl | rfl | rfl | rfl | rfl | rfl | rfl | rfl | rfl | rfl | rfl | rfl | rfl | rfl | rfl | rfl | rfl | rfl | rfl
    · exact ⟨37, PySem.W.mg_of X N xa_BadBatch, xt_TooLarge_BadBatch⟩
    · exact ⟨56, PySem.W.mg_of X N xa_BadBook, xt_TooLarge_BadBook⟩
    · exact ⟨75, PySem.W.mg_of X N xa_BadPile, xt_TooLarge_BadPile⟩
    · exact ⟨94, PySem.W.mg_of X N xa_BadSlip, xt_TooLarge_BadSlip⟩
    · exact ⟨113, PySem.W.mg_of X N xa_BadText, xt_TooLarge_BadText⟩
    · exact ⟨125, PySem.W.mg_of X N xa_Busy, xt_TooLarge_Busy⟩
    · exact ⟨144, PySem.W.mg_of X N xa_NoAmount, xt_TooLarge_NoAmount⟩
    · exact ⟨156, PySem.W.mg_of X N xa_NoChoice, xt_TooLarge_NoChoice⟩
    · exact ⟨175, PySem.W.mg_of X N xa_NoHouse, xt_TooLarge_NoHouse⟩
    · exact ⟨194, PySem.W.mg_of X N xa_NoIndex, xt_TooLarge_NoIndex⟩
    · exact ⟨213, PySem.W.mg_of X N xa_NoRing, xt_TooLarge_NoRing⟩
    · exact ⟨232, PySem.W.mg_of X N xa_NoSettlement, xt_TooLarge_NoSettlement⟩
    · exact ⟨244, PySem.W.mg_of X N xa_NotBelow, xt_TooLarge_NotBelow⟩
    · exact ⟨256, PySem.W.mg_of X N xa_NothingToUndo, xt_TooLarge_NothingToUndo⟩
    · exact ⟨275, PySem.W.mg_of X N xa_NoVersion, xt_TooLarge_NoVersion⟩
    · exact ⟨287, PySem.W.mg_of X N xa_OtherBook, xt_TooLarge_OtherBook⟩
    · exact ⟨306, PySem.W.mg_of X N xa_Overdrawn, xt_TooLarge_Overdrawn⟩
    · exact ⟨325, PySem.W.mg_of X N xa_Rejected, xt_TooLarge_Rejected⟩
    · exact ⟨344, PySem.W.mg_of X N xa_TooDeep, xt_TooLarge_TooDeep⟩
    · exact ⟨363, PySem.W.mg_of X N xa_TooLarge, xt_TooLarge_TooLarge⟩
    · exact ⟨382, PySem.W.mg_of X N xa_TooMany, xt_TooLarge_TooMany⟩
    · exact ⟨394, PySem.W.mg_of X N xa_TooManyEdits, xt_TooLarge_TooManyEdits⟩
    · exact ⟨413, PySem.W.mg_of X N xa_TooRich, xt_TooLarge_TooRich⟩
    · exact ⟨24, PySem.W.mg_of X N xa_SlipError, xt_TooLarge_SlipError⟩, by
    intro f hf
    simp only [xfs, List.mem_cons, List.not_mem_nil, or_false] at hf
    rcases hf with rfl | rfl | rfl | rfl | rfl | rfl
    · exact xf_TooLarge_error
    · exact xf_TooLarge_index
    · exact xf_TooLarge_amount
    · exact xf_TooLarge_house
    · exact xf_TooLarge_version
    · exact xf_TooLarge_limit⟩
  have XX_TooMany : XCls K mg 24 xms xfs "TooMany" 382 := ⟨PySem.W.mg_of X N xa_TooMany, ⟨xga_TooMany, xgg_TooMany, xe_TooMany, xd_TooMany, xha_TooMany, xhn, xht, xhm_TooMany⟩, PySem.W.exm_ref xbE xbD xbT xm_TooMany, xv_TooMany, by
    intro m hm
    simp only [xms, xmt, List.map_cons, List.map_nil, List.mem_cons, List.not_mem_nil, or_false] at hm
    rcases hm with rfl | rfl | rfl | rfl | rfl | rfl | rfl | rfl | rfl | rfl | rfl | rfl | rfl | rfl | rfl | rfl | rfl | rfl | rfl | rfl | rfl | rfl | rfl | rfl
    · exact ⟨37, PySem.W.mg_of X N xa_BadBatch, xt_TooMany_BadBatch⟩
    · exact ⟨56, PySem.W.mg_of X N xa_BadBook, xt_TooMany_BadBook⟩
    · exact ⟨75, PySem.W.mg_of X N xa_BadPile, xt_TooMany_BadPile⟩
    · exact ⟨94, PySem.W.mg_of X N xa_BadSlip, xt_TooMany_BadSlip⟩
    · exact ⟨113, PySem.W.mg_of X N xa_BadText, xt_TooMany_BadText⟩
    · exact ⟨125, PySem.W.mg_of X N xa_Busy, xt_TooMany_Busy⟩
    · exact ⟨144, PySem.W.mg_of X N xa_NoAmount, xt_TooMany_NoAmount⟩
    · exact ⟨156, PySem.W.mg_of X N xa_NoChoice, xt_TooMany_NoChoice⟩
    · exact ⟨175, PySem.W.mg_of X N xa_NoHouse, xt_TooMany_NoHouse⟩
    · exact ⟨194, PySem.W.mg_of X N xa_NoIndex, xt_TooMany_NoIndex⟩
    · exact ⟨213, PySem.W.mg_of X N xa_NoRing, xt_TooMany_NoRing⟩
    · exact ⟨232, PySem.W.mg_of X N xa_NoSettlement, xt_TooMany_NoSettlement⟩
    · exact ⟨244, PySem.W.mg_of X N xa_NotBelow, xt_TooMany_NotBelow⟩
    · exact ⟨256, PySem.W.mg_of X N xa_NothingToUndo, xt_TooMany_NothingToUndo⟩
    · exact ⟨275, PySem.W.mg_of X N xa_NoVersion, xt_TooMany_NoVersion⟩
    · exact ⟨287, PySem.W.mg_of X N xa_OtherBook, xt_TooMany_OtherBook⟩
    · exact ⟨306, PySem.W.mg_of X N xa_Overdrawn, xt_TooMany_Overdrawn⟩
    · exact ⟨325, PySem.W.mg_of X N xa_Rejected, xt_TooMany_Rejected⟩
    · exact ⟨344, PySem.W.mg_of X N xa_TooDeep, xt_TooMany_TooDeep⟩
    · exact ⟨363, PySem.W.mg_of X N xa_TooLarge, xt_TooMany_TooLarge⟩
    · exact ⟨382, PySem.W.mg_of X N xa_TooMany, xt_TooMany_TooMany⟩
    · exact ⟨394, PySem.W.mg_of X N xa_TooManyEdits, xt_TooMany_TooManyEdits⟩
    · exact ⟨413, PySem.W.mg_of X N xa_TooRich, xt_TooMany_TooRich⟩
    · exact ⟨24, PySem.W.mg_of X N xa_SlipError, xt_TooMany_SlipError⟩, by
    intro f hf
    simp only [xfs, List.mem_cons, List.not_mem_nil, or_false] at hf
    rcases hf with rfl | rfl | rfl | rfl | rfl | rfl
    · exact xf_TooMany_error
    · exact xf_TooMany_index
    · exact xf_TooMany_amount
    · exact xf_TooMany_house
    · exact xf_TooMany_version
    · exact xf_TooMany_limit⟩
  have XX_TooManyEdits : XCls K mg 24 xms xfs "TooManyEdits" 394 := ⟨PySem.W.mg_of X N xa_TooManyEdits, ⟨xga_TooManyEdits, xgg_TooManyEdits, xe_TooManyEdits, xd_TooManyEdits, xha_TooManyEdits, xhn, xht, xhm_TooManyEdits⟩, PySem.W.exm_ref xbE xbD xbT xm_TooManyEdits, xv_TooManyEdits, by
    intro m hm
    simp only [xms, xmt, List.map_cons, List.map_nil, List.mem_cons, List.not_mem_nil, or_false] at hm
    rcases hm with rfl | rfl | rfl | rfl | rfl | rfl | rfl | rfl | rfl | rfl | rfl | rfl | rfl | rfl | rfl | rfl | rfl | rfl | rfl | rfl | rfl | rfl | rfl | rfl
    · exact ⟨37, PySem.W.mg_of X N xa_BadBatch, xt_TooManyEdits_BadBatch⟩
    · exact ⟨56, PySem.W.mg_of X N xa_BadBook, xt_TooManyEdits_BadBook⟩
    · exact ⟨75, PySem.W.mg_of X N xa_BadPile, xt_TooManyEdits_BadPile⟩
    · exact ⟨94, PySem.W.mg_of X N xa_BadSlip, xt_TooManyEdits_BadSlip⟩
    · exact ⟨113, PySem.W.mg_of X N xa_BadText, xt_TooManyEdits_BadText⟩
    · exact ⟨125, PySem.W.mg_of X N xa_Busy, xt_TooManyEdits_Busy⟩
    · exact ⟨144, PySem.W.mg_of X N xa_NoAmount, xt_TooManyEdits_NoAmount⟩
    · exact ⟨156, PySem.W.mg_of X N xa_NoChoice, xt_TooManyEdits_NoChoice⟩
    · exact ⟨175, PySem.W.mg_of X N xa_NoHouse, xt_TooManyEdits_NoHouse⟩
    · exact ⟨194, PySem.W.mg_of X N xa_NoIndex, xt_TooManyEdits_NoIndex⟩
    · exact ⟨213, PySem.W.mg_of X N xa_NoRing, xt_TooManyEdits_NoRing⟩
    · exact ⟨232, PySem.W.mg_of X N xa_NoSettlement, xt_TooManyEdits_NoSettlement⟩
    · exact ⟨244, PySem.W.mg_of X N xa_NotBelow, xt_TooManyEdits_NotBelow⟩
    · exact ⟨256, PySem.W.mg_of X N xa_NothingToUndo, xt_TooManyEdits_NothingToUndo⟩
    · exact ⟨275, PySem.W.mg_of X N xa_NoVersion, xt_TooManyEdits_NoVersion⟩
    · exact ⟨287, PySem.W.mg_of X N xa_OtherBook, xt_TooManyEdits_OtherBook⟩
    · exact ⟨306, PySem.W.mg_of X N xa_Overdrawn, xt_TooManyEdits_Overdrawn⟩
    · exact ⟨325, PySem.W.mg_of X N xa_Rejected, xt_TooManyEdits_Rejected⟩
    · exact ⟨344, PySem.W.mg_of X N xa_TooDeep, xt_TooManyEdits_TooDeep⟩
    · exact ⟨363, PySem.W.mg_of X N xa_TooLarge, xt_TooManyEdits_TooLarge⟩
    · exact ⟨382, PySem.W.mg_of X N xa_TooMany, xt_TooManyEdits_TooMany⟩
    · exact ⟨394, PySem.W.mg_of X N xa_TooManyEdits, xt_TooManyEdits_TooManyEdits⟩
    · exact ⟨413, PySem.W.mg_of X N xa_TooRich, xt_TooManyEdits_TooRich⟩
    · exact ⟨24, PySem.W.mg_of X N xa_SlipError, xt_TooManyEdits_SlipError⟩, by
    intro f hf
    simp only [xfs, List.mem_cons, List.not_mem_nil, or_false] at hf
    rcases hf with rfl | rfl | rfl | rfl | rfl | rfl
    · exact xf_TooManyEdits_error
    · exact xf_TooManyEdits_index
    · exact xf_TooManyEdits_amount
    · exact xf_TooManyEdits_house
    · exact xf_TooManyEdits_version
    · exact xf_TooManyEdits_limit⟩
  have XX_TooRich : XCls K mg 24 xms xfs "TooRich" 413 := ⟨PySem.W.mg_of X N xa_TooRich, ⟨xga_TooRich, xgg_TooRich, xe_TooRich, xd_TooRich, xha_TooRich, xhn, xht, xhm_TooRich⟩, PySem.W.exm_ref xbE xbD xbT xm_TooRich, xv_TooRich, by
    intro m hm
    simp only [xms, xmt, List.map_cons, List.map_nil, List.mem_cons, List.not_mem_nil, or_false] at hm
    rcases hm with rfl | rfl | rfl | rfl | rfl | rfl | rfl | rfl | rfl | rfl | rfl | rfl | rfl | rfl | rfl | rfl | rfl | rfl | rfl | rfl | rfl | rfl | rfl | rfl
    · exact ⟨37, PySem.W.mg_of X N xa_BadBatch, xt_TooRich_BadBatch⟩
    · exact ⟨56, PySem.W.mg_of X N xa_BadBook, xt_TooRich_BadBook⟩
    · exact ⟨75, PySem.W.mg_of X N xa_BadPile, xt_TooRich_BadPile⟩
    · exact ⟨94, PySem.W.mg_of X N xa_BadSlip, xt_TooRich_BadSlip⟩
    · exact ⟨113, PySem.W.mg_of X N xa_BadText, xt_TooRich_BadText⟩
    · exact ⟨125, PySem.W.mg_of X N xa_Busy, xt_TooRich_Busy⟩
    · exact ⟨144, PySem.W.mg_of X N xa_NoAmount, xt_TooRich_NoAmount⟩
    · exact ⟨156, PySem.W.mg_of X N xa_NoChoice, xt_TooRich_NoChoice⟩
    · exact ⟨175, PySem.W.mg_of X N xa_NoHouse, xt_TooRich_NoHouse⟩
    · exact ⟨194, PySem.W.mg_of X N xa_NoIndex, xt_TooRich_NoIndex⟩
    · exact ⟨213, PySem.W.mg_of X N xa_NoRing, xt_TooRich_NoRing⟩
    · exact ⟨232, PySem.W.mg_of X N xa_NoSettlement, xt_TooRich_NoSettlement⟩
    · exact ⟨244, PySem.W.mg_of X N xa_NotBelow, xt_TooRich_NotBelow⟩
    · exact ⟨256, PySem.W.mg_of X N xa_NothingToUndo, xt_TooRich_NothingToUndo⟩
    · exact ⟨275, PySem.W.mg_of X N xa_NoVersion, xt_TooRich_NoVersion⟩
    · exact ⟨287, PySem.W.mg_of X N xa_OtherBook, xt_TooRich_OtherBook⟩
    · exact ⟨306, PySem.W.mg_of X N xa_Overdrawn, xt_TooRich_Overdrawn⟩
    · exact ⟨325, PySem.W.mg_of X N xa_Rejected, xt_TooRich_Rejected⟩
    · exact ⟨344, PySem.W.mg_of X N xa_TooDeep, xt_TooRich_TooDeep⟩
    · exact ⟨363, PySem.W.mg_of X N xa_TooLarge, xt_TooRich_TooLarge⟩
    · exact ⟨382, PySem.W.mg_of X N xa_TooMany, xt_TooRich_TooMany⟩
    · exact ⟨394, PySem.W.mg_of X N xa_TooManyEdits, xt_TooRich_TooManyEdits⟩
    · exact ⟨413, PySem.W.mg_of X N xa_TooRich, xt_TooRich_TooRich⟩
    · exact ⟨24, PySem.W.mg_of X N xa_SlipError, xt_TooRich_SlipError⟩, by
    intro f hf
    simp only [xfs, List.mem_cons, List.not_mem_nil, or_false] at hf
    rcases hf with rfl | rfl | rfl | rfl | rfl | rfl
    · exact xf_TooRich_error
    · exact xf_TooRich_index
    · exact xf_TooRich_amount
    · exact xf_TooRich_house
    · exact xf_TooRich_version
    · exact xf_TooRich_limit⟩
  have XA : XAll K mg xms xfs := by
    intro C hC
    simp only [vcs, List.mem_cons, List.not_mem_nil, or_false] at hC
    rcases hC with rfl | rfl | rfl | rfl | rfl | rfl | rfl | rfl | rfl | rfl | rfl | rfl | rfl | rfl | rfl | rfl | rfl | rfl | rfl | rfl | rfl | rfl | rfl
    · exact ⟨24, by rw [show xnm 37 = ("BadBatch" : Str) from by decide +kernel]; exact XX_BadBatch⟩
    · exact ⟨24, by rw [show xnm 56 = ("BadBook" : Str) from by decide +kernel]; exact XX_BadBook⟩
    · exact ⟨24, by rw [show xnm 75 = ("BadPile" : Str) from by decide +kernel]; exact XX_BadPile⟩
    · exact ⟨24, by rw [show xnm 94 = ("BadSlip" : Str) from by decide +kernel]; exact XX_BadSlip⟩
    · exact ⟨24, by rw [show xnm 113 = ("BadText" : Str) from by decide +kernel]; exact XX_BadText⟩
    · exact ⟨24, by rw [show xnm 125 = ("Busy" : Str) from by decide +kernel]; exact XX_Busy⟩
    · exact ⟨24, by rw [show xnm 144 = ("NoAmount" : Str) from by decide +kernel]; exact XX_NoAmount⟩
    · exact ⟨24, by rw [show xnm 156 = ("NoChoice" : Str) from by decide +kernel]; exact XX_NoChoice⟩
    · exact ⟨24, by rw [show xnm 175 = ("NoHouse" : Str) from by decide +kernel]; exact XX_NoHouse⟩
    · exact ⟨24, by rw [show xnm 194 = ("NoIndex" : Str) from by decide +kernel]; exact XX_NoIndex⟩
    · exact ⟨24, by rw [show xnm 213 = ("NoRing" : Str) from by decide +kernel]; exact XX_NoRing⟩
    · exact ⟨24, by rw [show xnm 232 = ("NoSettlement" : Str) from by decide +kernel]; exact XX_NoSettlement⟩
    · exact ⟨24, by rw [show xnm 244 = ("NotBelow" : Str) from by decide +kernel]; exact XX_NotBelow⟩
    · exact ⟨24, by rw [show xnm 256 = ("NothingToUndo" : Str) from by decide +kernel]; exact XX_NothingToUndo⟩
    · exact ⟨24, by rw [show xnm 275 = ("NoVersion" : Str) from by decide +kernel]; exact XX_NoVersion⟩
    · exact ⟨24, by rw [show xnm 287 = ("OtherBook" : Str) from by decide +kernel]; exact XX_OtherBook⟩
    · exact ⟨24, by rw [show xnm 306 = ("Overdrawn" : Str) from by decide +kernel]; exact XX_Overdrawn⟩
    · exact ⟨24, by rw [show xnm 325 = ("Rejected" : Str) from by decide +kernel]; exact XX_Rejected⟩
    · exact ⟨24, by rw [show xnm 344 = ("TooDeep" : Str) from by decide +kernel]; exact XX_TooDeep⟩
    · exact ⟨24, by rw [show xnm 363 = ("TooLarge" : Str) from by decide +kernel]; exact XX_TooLarge⟩
    · exact ⟨24, by rw [show xnm 382 = ("TooMany" : Str) from by decide +kernel]; exact XX_TooMany⟩
    · exact ⟨24, by rw [show xnm 394 = ("TooManyEdits" : Str) from by decide +kernel]; exact XX_TooManyEdits⟩
    · exact ⟨24, by rw [show xnm 413 = ("TooRich" : Str) from by decide +kernel]; exact XX_TooRich⟩
  have G : Gs K mg := { r_BadBatch := ⟨PySem.W.mg_of X N xa_BadBatch, ⟨xq_BadBatch, xk_BadBatch, xe_BadBatch, xty_BadBatch⟩⟩, r_BadBook := ⟨PySem.W.mg_of X N xa_BadBook, I_BadBook, ⟨⟨_, _, _, _, _, _, _, _, _, _, _, _, _, _, _, xl_BadBook, rfl⟩, xsa_BadBook, xga_BadBook, xgg_BadBook, xf_BadBook_error, xi_BadBook, xit_BadBook, xk_BadBook, xe_BadBook, xty_BadBook, xd_BadBook, ⟨_, _, _, _, _, _, _, _, _, _, _, _, _, _, xil_BadBook, xic_BadBook⟩⟩⟩, r_BadPile := ⟨PySem.W.mg_of X N xa_BadPile, I_BadPile, ⟨⟨_, _, _, _, _, _, _, _, _, _, _, _, _, _, _, xl_BadPile, rfl⟩, xsa_BadPile, xga_BadPile, xgg_BadPile, xf_BadPile_error, xi_BadPile, xit_BadPile, xk_BadPile, xe_BadPile, xty_BadPile, xd_BadPile, ⟨_, _, _, _, _, _, _, _, _, _, _, _, _, _, xil_BadPile, xic_BadPile⟩⟩⟩, r_BadSlip := ⟨PySem.W.mg_of X N xa_BadSlip, I_BadSlip, ⟨⟨_, _, _, _, _, _, _, _, _, _, _, _, _, _, _, xl_BadSlip, rfl⟩, xsa_BadSlip, xga_BadSlip, xgg_BadSlip, xf_BadSlip_index, xi_BadSlip, xit_BadSlip, xk_BadSlip, xe_BadSlip, xty_BadSlip, xd_BadSlip, ⟨_, _, _, _, _, _, _, _, _, _, _, _, _, _, xil_BadSlip, xic_BadSlip⟩⟩⟩, r_BadText := ⟨PySem.W.mg_of X N xa_BadText, I_BadText, ⟨⟨_, _, _, _, _, _, _, _, _, _, _, _, _, _, _, xl_BadText, rfl⟩, xsa_BadText, xga_BadText, xgg_BadText, xf_BadText_index, xi_BadText, xit_BadText, xk_BadText, xe_BadText, xty_BadText, xd_BadText, ⟨_, _, _, _, _, _, _, _, _, _, _, _, _, _, xil_BadText, xic_BadText⟩⟩⟩, r_Busy := ⟨PySem.W.mg_of X N xa_Busy, ⟨xq_Busy, xk_Busy, xe_Busy, xty_Busy⟩⟩, r_NoAmount := ⟨PySem.W.mg_of X N xa_NoAmount, I_NoAmount, ⟨⟨_, _, _, _, _, _, _, _, _, _, _, _, _, _, _, xl_NoAmount, rfl⟩, xsa_NoAmount, xga_NoAmount, xgg_NoAmount, xf_NoAmount_amount, xi_NoAmount, xit_NoAmount, xk_NoAmount, xe_NoAmount, xty_NoAmount, xd_NoAmount, ⟨_, _, _, _, _, _, _, _, _, _, _, _, _, _, xil_NoAmount, xic_NoAmount⟩⟩⟩, r_NoChoice := ⟨PySem.W.mg_of X N xa_NoChoice, ⟨xq_NoChoice, xk_NoChoice, xe_NoChoice, xty_NoChoice⟩⟩, r_NoHouse := ⟨PySem.W.mg_of X N xa_NoHouse, I_NoHouse, ⟨⟨_, _, _, _, _, _, _, _, _, _, _, _, _, _, _, xl_NoHouse, rfl⟩, xsa_NoHouse, xga_NoHouse, xgg_NoHouse, xf_NoHouse_house, xi_NoHouse, xit_NoHouse, xk_NoHouse, xe_NoHouse, xty_NoHouse, xd_NoHouse, ⟨_, _, _, _, _, _, _, _, _, _, _, _, _, _, xil_NoHouse, xic_NoHouse⟩⟩⟩, r_NoIndex := ⟨PySem.W.mg_of X N xa_NoIndex, I_NoIndex, ⟨⟨_, _, _, _, _, _, _, _, _, _, _, _, _, _, _, xl_NoIndex, rfl⟩, xsa_NoIndex, xga_NoIndex, xgg_NoIndex, xf_NoIndex_index, xi_NoIndex, xit_NoIndex, xk_NoIndex, xe_NoIndex, xty_NoIndex, xd_NoIndex, ⟨_, _, _, _, _, _, _, _, _, _, _, _, _, _, xil_NoIndex, xic_NoIndex⟩⟩⟩, r_NoRing := ⟨PySem.W.mg_of X N xa_NoRing, I_NoRing, ⟨⟨_, _, _, _, _, _, _, _, _, _, _, _, _, _, _, xl_NoRing, rfl⟩, xsa_NoRing, xga_NoRing, xgg_NoRing, xf_NoRing_house, xi_NoRing, xit_NoRing, xk_NoRing, xe_NoRing, xty_NoRing, xd_NoRing, ⟨_, _, _, _, _, _, _, _, _, _, _, _, _, _, xil_NoRing, xic_NoRing⟩⟩⟩, r_NoSettlement := ⟨PySem.W.mg_of X N xa_NoSettlement, I_NoSettlement, ⟨⟨_, _, _, _, _, _, _, _, _, _, _, _, _, _, _, xl_NoSettlement, rfl⟩, xsa_NoSettlement, xga_NoSettlement, xgg_NoSettlement, xf_NoSettlement_error, xi_NoSettlement, xit_NoSettlement, xk_NoSettlement, xe_NoSettlement, xty_NoSettlement, xd_NoSettlement, ⟨_, _, _, _, _, _, _, _, _, _, _, _, _, _, xil_NoSettlement, xic_NoSettlement⟩⟩⟩, r_NotBelow := ⟨PySem.W.mg_of X N xa_NotBelow, ⟨xq_NotBelow, xk_NotBelow, xe_NotBelow, xty_NotBelow⟩⟩, r_NothingToUndo := ⟨PySem.W.mg_of X N xa_NothingToUndo, ⟨xq_NothingToUndo, xk_NothingToUndo, xe_NothingToUndo, xty_NothingToUndo⟩⟩, r_NoVersion := ⟨PySem.W.mg_of X N xa_NoVersion, I_NoVersion, ⟨⟨_, _, _, _, _, _, _, _, _, _, _, _, _, _, _, xl_NoVersion, rfl⟩, xsa_NoVersion, xga_NoVersion, xgg_NoVersion, xf_NoVersion_version, xi_NoVersion, xit_NoVersion, xk_NoVersion, xe_NoVersion, xty_NoVersion, xd_NoVersion, ⟨_, _, _, _, _, _, _, _, _, _, _, _, _, _, xil_NoVersion, xic_NoVersion⟩⟩⟩, r_OtherBook := ⟨PySem.W.mg_of X N xa_OtherBook, ⟨xq_OtherBook, xk_OtherBook, xe_OtherBook, xty_OtherBook⟩⟩, r_Overdrawn := ⟨PySem.W.mg_of X N xa_Overdrawn, I_Overdrawn, ⟨⟨_, _, _, _, _, _, _, _, _, _, _, _, _, _, _, xl_Overdrawn, rfl⟩, xsa_Overdrawn, xga_Overdrawn, xgg_Overdrawn, xf_Overdrawn_house, xi_Overdrawn, xit_Overdrawn, xk_Overdrawn, xe_Overdrawn, xty_Overdrawn, xd_Overdrawn, ⟨_, _, _, _, _, _, _, _, _, _, _, _, _, _, xil_Overdrawn, xic_Overdrawn⟩⟩⟩, r_Rejected := ⟨PySem.W.mg_of X N xa_Rejected, I_Rejected, ⟨⟨_, _, _, _, _, _, _, _, _, _, _, _, _, _, _, xl_Rejected, rfl⟩, xsa_Rejected, xga_Rejected, xgg_Rejected, xf_Rejected_index, xi_Rejected, xit_Rejected, xk_Rejected, xe_Rejected, xty_Rejected, xd_Rejected, ⟨_, _, _, _, _, _, _, _, _, _, _, _, _, _, xil_Rejected, xic_Rejected⟩⟩⟩, r_TooDeep := ⟨PySem.W.mg_of X N xa_TooDeep, I_TooDeep, ⟨⟨_, _, _, _, _, _, _, _, _, _, _, _, _, _, _, xl_TooDeep, rfl⟩, xsa_TooDeep, xga_TooDeep, xgg_TooDeep, xf_TooDeep_house, xi_TooDeep, xit_TooDeep, xk_TooDeep, xe_TooDeep, xty_TooDeep, xd_TooDeep, ⟨_, _, _, _, _, _, _, _, _, _, _, _, _, _, xil_TooDeep, xic_TooDeep⟩⟩⟩, r_TooLarge := ⟨PySem.W.mg_of X N xa_TooLarge, I_TooLarge, ⟨⟨_, _, _, _, _, _, _, _, _, _, _, _, _, _, _, xl_TooLarge, rfl⟩, xsa_TooLarge, xga_TooLarge, xgg_TooLarge, xf_TooLarge_limit, xi_TooLarge, xit_TooLarge, xk_TooLarge, xe_TooLarge, xty_TooLarge, xd_TooLarge, ⟨_, _, _, _, _, _, _, _, _, _, _, _, _, _, xil_TooLarge, xic_TooLarge⟩⟩⟩, r_TooMany := ⟨PySem.W.mg_of X N xa_TooMany, I_TooMany, ⟨⟨_, _, _, _, _, _, _, _, _, _, _, _, _, _, _, xl_TooMany, rfl⟩, xsa_TooMany, xga_TooMany, xgg_TooMany, xf_TooMany_limit, xi_TooMany, xit_TooMany, xk_TooMany, xe_TooMany, xty_TooMany, xd_TooMany, ⟨_, _, _, _, _, _, _, _, _, _, _, _, _, _, xil_TooMany, xic_TooMany⟩⟩⟩, r_TooManyEdits := ⟨PySem.W.mg_of X N xa_TooManyEdits, ⟨xq_TooManyEdits, xk_TooManyEdits, xe_TooManyEdits, xty_TooManyEdits⟩⟩, r_TooRich := ⟨PySem.W.mg_of X N xa_TooRich, I_TooRich, ⟨⟨_, _, _, _, _, _, _, _, _, _, _, _, _, _, _, xl_TooRich, rfl⟩, xsa_TooRich, xga_TooRich, xgg_TooRich, xf_TooRich_house, xi_TooRich, xit_TooRich, xk_TooRich, xe_TooRich, xty_TooRich, xd_TooRich, ⟨_, _, _, _, _, _, _, _, _, _, _, _, _, _, xil_TooRich, xic_TooRich⟩⟩⟩, r_SlipError := ⟨PySem.W.mg_of X N xa_SlipError, trivial⟩, x_all := XA, g_ValueError := PySem.W.mg_none_of X N z_ValueError, g_enumerate := PySem.W.mg_none_of X N z_enumerate, g_isinstance := PySem.W.mg_none_of X N z_isinstance, g_len := PySem.W.mg_none_of X N z_len, g_range := PySem.W.mg_none_of X N z_range, g_repr := PySem.W.mg_none_of X N z_repr, c_BATCH := ⟨_, PySem.W.mg_of X N m_BATCH, r_BATCH⟩, c_HISTORY := ⟨_, PySem.W.mg_of X N m_HISTORY, r_HISTORY⟩, c_MAX_AMOUNT := ⟨_, PySem.W.mg_of X N m_MAX_AMOUNT, r_MAX_AMOUNT⟩, c_MAX_HOUSES := ⟨_, PySem.W.mg_of X N m_MAX_HOUSES, r_MAX_HOUSES⟩, c_MAX_PURSE := ⟨_, PySem.W.mg_of X N m_MAX_PURSE, r_MAX_PURSE⟩, c_MAX_SLIPS := ⟨_, PySem.W.mg_of X N m_MAX_SLIPS, r_MAX_SLIPS⟩, c_MAX_STEPS := ⟨_, PySem.W.mg_of X N m_MAX_STEPS, r_MAX_STEPS⟩ }
  have F0 := fun_mk (st := s__law_draw) l0 c0 k0
  have b0 := F0.binds (ps := ["_law_box", "_law_many"]) fun _ _ _ _ _ _ us hl => match us, hl with | [_, _], _ => rfl
  have F1 := fun_mk (st := s__law_filled) l1 c1 k1
  have b1 := F1.binds (ps := ["_law_error"]) fun _ _ _ _ _ _ us hl => match us, hl with | [_], _ => rfl
  have F2 := fun_mk (st := s__law_made) l2 c2 k2
  have b2 := F2.binds (ps := ["_law_values"]) fun _ _ _ _ _ _ us hl => match us, hl with | [_], _ => rfl
  have F3 := fun_mk (st := s__law_plain) l3 c3 k3
  have b3 := F3.binds (ps := ["_law_error"]) fun _ _ _ _ _ _ us hl => match us, hl with | [_], _ => rfl
  have F4 := fun_mk (st := s__law_alone) l4 c4 k4
  have b4 := F4.binds (ps := ["_law_errors", "_law_others"]) fun _ _ _ _ _ _ us hl => match us, hl with | [_, _], _ => rfl
  have F5 := fun_mk (st := s__law_one) l5 c5 k5
  have b5 := F5.binds (ps := ["_law_box", "_law_items"]) fun _ _ _ _ _ _ us hl => match us, hl with | [_, _], _ => rfl
  have F6 := fun_mk (st := s__law_odd) l6 c6 k6
  have b6 := F6.binds (ps := ["_law_box"]) fun _ _ _ _ _ _ us hl => match us, hl with | [_], _ => rfl
  have F7 := fun_mk (st := s__law_opened) l7 c7 k7
  have b7 := F7.binds (ps := ["_law_script"]) fun _ _ _ _ _ _ us hl => match us, hl with | [_], _ => rfl
  have F8 := fun_mk (st := s_law) l8 c8 k8
  have b8 := F8.binds (ps := ["_law_script"]) fun _ _ _ _ _ _ us hl => match us, hl with | [_], _ => rfl
  refine ⟨PySem.W.fnOf "law" "law" (defArgs s_law) (defBody s_law) (defScope s_law) .none kV8 dc8 pm8 an8 cd8 ct8, fun s v => .of_eq rfl, fun base kb nb hsys => ?_⟩
  have C__law_draw : Cal P w K mg base 1 "_law_draw" ["_law_box", "_law_many"] sp__law_draw := ⟨_, _, d_draw F0 (PySem.W.mg_none_of X N z_len), PySem.W.mg_of X N a0, k0, b0⟩
  have C__law_filled : Cal P w K mg base 1 "_law_filled" ["_law_error"] sp__law_filled := ⟨_, _, w__law_filled (k := 0) F1 G hsys  len__law_filled law__law_filled, PySem.W.mg_of X N a1, k1, b1⟩
  have C__law_made : Cal P w K mg base 1 "_law_made" ["_law_values"] sp__law_made := ⟨_, _, w__law_made (k := 0) F2 G hsys  len__law_made law__law_made, PySem.W.mg_of X N a2, k2, b2⟩
  have C__law_plain : Cal P w K mg base 1 "_law_plain" ["_law_error"] sp__law_plain := ⟨_, _, w__law_plain (k := 0) F3 G hsys  len__law_plain law__law_plain, PySem.W.mg_of X N a3, k3, b3⟩
  have C__law_alone : Cal P w K mg base 2 "_law_alone" ["_law_errors", "_law_others"] sp__law_alone := ⟨_, _, w__law_alone (k := 1) F4 G hsys (C__law_filled.mono (by decide)) (C__law_plain.mono (by decide)) len__law_alone law__law_alone, PySem.W.mg_of X N a4, k4, b4⟩
  have C__law_one : Cal P w K mg base 2 "_law_one" ["_law_box", "_law_items"] sp__law_one := ⟨_, _, w__law_one (k := 1) F5 G hsys (C__law_draw.mono (by decide)) len__law_one law__law_one, PySem.W.mg_of X N a5, k5, b5⟩
  have C__law_odd : Cal P w K mg base 3 "_law_odd" ["_law_box"] sp__law_odd := ⟨_, _, w__law_odd (k := 2) F6 G hsys (C__law_one.mono (by decide)) len__law_odd law__law_odd, PySem.W.mg_of X N a6, k6, b6⟩
  have O : HFn P w K mg base 1 f7 _ ["_law_script"] (spOpen K) := g_opened F7 (PySem.W.mg_none_of X N z_abs) (PySem.W.mg_none_of X N z_int)
  exact h_law F8 G hsys O (PySem.W.mg_of X N a7) k7 b7 (C__law_alone.mono (by decide)) (C__law_made.mono (by decide)) (C__law_odd.mono (by decide))
end Dl
open PySem PySem.W PyProof.Rows in
set_option maxRecDepth 100000 in
set_option maxHeartbeats 0 in
theorem PySem.Challenge.cw_slipturns_k01_limits_and_errors_holds : PySem.Challenge.rw_slipturns_k01_limits_and_errors.Holds := by
  w_on; o_law; k_head; (case hw => w_witness2)
  k_fill
  refine Dl.walkD (l := PySem.Challenge.rw_slipturns_k01_limits_and_errors) (n := 63) (k := 4) (x := "_law_script") (sp := fun w => Dl.spLaw _) rfl (by decide) rfl ⟨rfl, by decide, by decide⟩ (fun w h Y => PySem.W.kIn_of Y) ?Q ?F (fun w H a ns hl hS => ⟨a, ns, rfl, hS, fun _ => rfl⟩)
  case Q => decide +kernel
  case F =>
    intro w mg fa h KX N hmg
    refine' Dl.all_mk KX N hmg ?a0 ?l0 ?c0 ?k0 ?a1 ?l1 ?c1 ?k1 ?a2 ?l2 ?c2 ?k2 ?a3 ?l3 ?c3 ?k3 ?a4 ?l4 ?c4 ?k4 ?a5 ?l5 ?c5 ?k5 ?a6 ?l6 ?c6 ?k6 ?a7 ?l7 ?c7 ?k7 ?a8 ?l8 ?c8 ?k8 ?z_ValueError ?z_abs ?z_enumerate ?z_int ?z_isinstance ?z_len ?z_range ?z_repr ?m_BATCH ?r_BATCH ?m_HISTORY ?r_HISTORY ?m_MAX_AMOUNT ?r_MAX_AMOUNT ?m_MAX_HOUSES ?r_MAX_HOUSES ?m_MAX_PURSE ?r_MAX_PURSE ?m_MAX_SLIPS ?r_MAX_SLIPS ?m_MAX_STEPS ?r_MAX_STEPS ?xa_BadBatch ?xa_BadBook ?xa_BadPile ?xa_BadSlip ?xa_BadText ?xa_Busy ?xa_NoAmount ?xa_NoChoice ?xa_NoHouse ?xa_NoIndex ?xa_NoRing ?xa_NoSettlement ?xa_NotBelow ?xa_NothingToUndo ?xa_NoVersion ?xa_OtherBook ?xa_Overdrawn ?xa_Rejected ?xa_TooDeep ?xa_TooLarge ?xa_TooMany ?xa_TooManyEdits ?xa_TooRich ?xa_SlipError ?xbE ?xbD ?xbT ?xhn ?xht ?xq_BadBatch ?xga_BadBatch ?xgg_BadBatch ?xha_BadBatch ?xhm_BadBatch ?xf_BadBatch_error ?xf_BadBatch_index ?xf_BadBatch_amount ?xf_BadBatch_house ?xf_BadBatch_version ?xf_BadBatch_limit ?xk_BadBatch ?xe_BadBatch ?xty_BadBatch ?xd_BadBatch ?xm_BadBatch ?xv_BadBatch ?xt_BadBatch_BadBatch ?xt_BadBatch_BadBook ?xt_BadBatch_BadPile ?xt_BadBatch_BadSlip ?xt_BadBatch_BadText ?xt_BadBatch_Busy ?xt_BadBatch_NoAmount ?xt_BadBatch_NoChoice ?xt_BadBatch_NoHouse ?xt_BadBatch_NoIndex ?xt_BadBatch_NoRing ?xt_BadBatch_NoSettlement ?xt_BadBatch_NotBelow ?xt_BadBatch_NothingToUndo ?xt_BadBatch_NoVersion ?xt_BadBatch_OtherBook ?xt_BadBatch_Overdrawn ?xt_BadBatch_Rejected ?xt_BadBatch_TooDeep ?xt_BadBatch_TooLarge ?xt_BadBatch_TooMany ?xt_BadBatch_TooManyEdits ?xt_BadBatch_TooRich ?xt_BadBatch_SlipError ?xl_BadBook ?xsa_BadBook ?xga_BadBook ?xgg_BadBook ?xha_BadBook ?xhm_BadBook ?xf_BadBook_error ?xf_BadBook_index ?xf_BadBook_amount ?xf_BadBook_house ?xf_BadBook_version ?xf_BadBook_limit ?xi_BadBook ?xit_BadBook ?xil_BadBook ?xic_BadBook ?xk_BadBook ?xe_BadBook ?xty_BadBook ?xd_BadBook ?xm_BadBook ?xv_BadBook ?xt_BadBook_BadBatch ?xt_BadBook_BadBook ?xt_BadBook_BadPile ?xt_BadBook_BadSlip ?xt_BadBook_BadText ?xt_BadBook_Busy ?xt_BadBook_NoAmount ?xt_BadBook_NoChoice ?xt_BadBook_NoHouse ?xt_BadBook_NoIndex ?xt_BadBook_NoRing ?xt_BadBook_NoSettlement ?xt_BadBook_NotBelow ?xt_BadBook_NothingToUndo ?xt_BadBook_NoVersion ?xt_BadBook_OtherBook ?xt_BadBook_Overdrawn ?xt_BadBook_Rejected ?xt_BadBook_TooDeep ?xt_BadBook_TooLarge ?xt_BadBook_TooMany ?xt_BadBook_TooManyEdits ?xt_BadBook_TooRich ?xt_BadBook_SlipError ?xl_BadPile ?xsa_BadPile ?xga_BadPile ?xgg_BadPile ?xha_BadPile ?xhm_BadPile ?xf_BadPile_error ?xf_BadPile_index ?xf_BadPile_amount ?xf_BadPile_house ?xf_BadPile_version ?xf_BadPile_limit ?xi_BadPile ?xit_BadPile ?xil_BadPile ?xic_BadPile ?xk_BadPile ?xe_BadPile ?xty_BadPile ?xd_BadPile ?xm_BadPile ?xv_BadPile ?xt_BadPile_BadBatch ?xt_BadPile_BadBook ?xt_BadPile_BadPile ?xt_BadPile_BadSlip ?xt_BadPile_BadText ?xt_BadPile_Busy ?xt_BadPile_NoAmount ?xt_BadPile_NoChoice ?xt_BadPile_NoHouse ?xt_BadPile_NoIndex ?xt_BadPile_NoRing ?xt_BadPile_NoSettlement ?xt_BadPile_NotBelow ?xt_BadPile_NothingToUndo ?xt_BadPile_NoVersion ?xt_BadPile_OtherBook ?xt_BadPile_Overdrawn ?xt_BadPile_Rejected ?xt_BadPile_TooDeep ?xt_BadPile_TooLarge ?xt_BadPile_TooMany ?xt_BadPile_TooManyEdits ?xt_BadPile_TooRich ?xt_BadPile_SlipError ?xl_BadSlip ?xsa_BadSlip ?xga_BadSlip ?xgg_BadSlip ?xha_BadSlip ?xhm_BadSlip ?xf_BadSlip_error ?xf_BadSlip_index ?xf_BadSlip_amount ?xf_BadSlip_house ?xf_BadSlip_version ?xf_BadSlip_limit ?xi_BadSlip ?xit_BadSlip ?xil_BadSlip ?xic_BadSlip ?xk_BadSlip ?xe_BadSlip ?xty_BadSlip ?xd_BadSlip ?xm_BadSlip ?xv_BadSlip ?xt_BadSlip_BadBatch ?xt_BadSlip_BadBook ?xt_BadSlip_BadPile ?xt_BadSlip_BadSlip ?xt_BadSlip_BadText ?xt_BadSlip_Busy ?xt_BadSlip_NoAmount ?xt_BadSlip_NoChoice ?xt_BadSlip_NoHouse ?xt_BadSlip_NoIndex ?xt_BadSlip_NoRing ?xt_BadSlip_NoSettlement ?xt_BadSlip_NotBelow ?xt_BadSlip_NothingToUndo ?xt_BadSlip_NoVersion ?xt_BadSlip_OtherBook ?xt_BadSlip_Overdrawn ?xt_BadSlip_Rejected ?xt_BadSlip_TooDeep ?xt_BadSlip_TooLarge ?xt_BadSlip_TooMany ?xt_BadSlip_TooManyEdits ?xt_BadSlip_TooRich ?xt_BadSlip_SlipError ?xl_BadText ?xsa_BadText ?xga_BadText ?xgg_BadText ?xha_BadText ?xhm_BadText ?xf_BadText_error ?xf_BadText_index ?xf_BadText_amount ?xf_BadText_house ?xf_BadText_version ?xf_BadText_limit ?xi_BadText ?xit_BadText ?xil_BadText ?xic_BadText ?xk_BadText ?xe_BadText ?xty_BadText ?xd_BadText ?xm_BadText ?xv_BadText ?xt_BadText_BadBatch ?xt_BadText_BadBook ?xt_BadText_BadPile ?xt_BadText_BadSlip ?xt_BadText_BadText ?xt_BadText_Busy ?xt_BadText_NoAmount ?xt_BadText_NoChoice ?xt_BadText_NoHouse ?xt_BadText_NoIndex ?xt_BadText_NoRing ?xt_BadText_NoSettlement ?xt_BadText_NotBelow ?xt_BadText_NothingToUndo ?xt_BadText_NoVersion ?xt_BadText_OtherBook ?xt_BadText_Overdrawn ?xt_BadText_Rejected ?xt_BadText_TooDeep ?xt_BadText_TooLarge ?xt_BadText_TooMany ?xt_BadText_TooManyEdits ?xt_BadText_TooRich ?xt_BadText_SlipError ?xq_Busy ?xga_Busy ?xgg_Busy ?xha_Busy ?xhm_Busy ?xf_Busy_error ?xf_Busy_index ?xf_Busy_amount ?xf_Busy_house ?xf_Busy_version ?xf_Busy_limit ?xk_Busy ?xe_Busy ?xty_Busy ?xd_Busy ?xm_Busy ?xv_Busy ?xt_Busy_BadBatch ?xt_Busy_BadBook ?xt_Busy_BadPile ?xt_Busy_BadSlip ?xt_Busy_BadText ?xt_Busy_Busy ?xt_Busy_NoAmount ?xt_Busy_NoChoice ?xt_Busy_NoHouse ?xt_Busy_NoIndex ?xt_Busy_NoRing ?xt_Busy_NoSettlement ?xt_Busy_NotBelow ?xt_Busy_NothingToUndo ?xt_Busy_NoVersion ?xt_Busy_OtherBook ?xt_Busy_Overdrawn ?xt_Busy_Rejected ?xt_Busy_TooDeep ?xt_Busy_TooLarge ?xt_Busy_TooMany ?xt_Busy_TooManyEdits ?xt_Busy_TooRich ?xt_Busy_SlipError ?xl_NoAmount ?xsa_NoAmount ?xga_NoAmount ?xgg_NoAmount ?xha_NoAmount ?xhm_NoAmount ?xf_NoAmount_error ?xf_NoAmount_index ?xf_NoAmount_amount ?xf_NoAmount_house ?xf_NoAmount_version ?xf_NoAmount_limit ?xi_NoAmount ?xit_NoAmount ?xil_NoAmount ?xic_NoAmount ?xk_NoAmount ?xe_NoAmount ?xty_NoAmount ?xd_NoAmount ?xm_NoAmount ?xv_NoAmount ?xt_NoAmount_BadBatch ?xt_NoAmount_BadBook ?xt_NoAmount_BadPile ?xt_NoAmount_BadSlip ?xt_NoAmount_BadText ?xt_NoAmount_Busy ?xt_NoAmount_NoAmount ?xt_NoAmount_NoChoice ?xt_NoAmount_NoHouse ?xt_NoAmount_NoIndex ?xt_NoAmount_NoRing ?xt_NoAmount_NoSettlement ?xt_NoAmount_NotBelow ?xt_NoAmount_NothingToUndo ?xt_NoAmount_NoVersion ?xt_NoAmount_OtherBook ?xt_NoAmount_Overdrawn ?xt_NoAmount_Rejected ?xt_NoAmount_TooDeep ?xt_NoAmount_TooLarge ?xt_NoAmount_TooMany ?xt_NoAmount_TooManyEdits ?xt_NoAmount_TooRich ?xt_NoAmount_SlipError ?xq_NoChoice ?xga_NoChoice ?xgg_NoChoice ?xha_NoChoice ?xhm_NoChoice ?xf_NoChoice_error ?xf_NoChoice_index ?xf_NoChoice_amount ?xf_NoChoice_house ?xf_NoChoice_version ?xf_NoChoice_limit ?xk_NoChoice ?xe_NoChoice ?xty_NoChoice ?xd_NoChoice ?xm_NoChoice ?xv_NoChoice ?xt_NoChoice_BadBatch ?xt_NoChoice_BadBook ?xt_NoChoice_BadPile ?xt_NoChoice_BadSlip ?xt_NoChoice_BadText ?xt_NoChoice_Busy ?xt_NoChoice_NoAmount ?xt_NoChoice_NoChoice ?xt_NoChoice_NoHouse ?xt_NoChoice_NoIndex ?xt_NoChoice_NoRing ?xt_NoChoice_NoSettlement ?xt_NoChoice_NotBelow ?xt_NoChoice_NothingToUndo ?xt_NoChoice_NoVersion ?xt_NoChoice_OtherBook ?xt_NoChoice_Overdrawn ?xt_NoChoice_Rejected ?xt_NoChoice_TooDeep ?xt_NoChoice_TooLarge ?xt_NoChoice_TooMany ?xt_NoChoice_TooManyEdits ?xt_NoChoice_TooRich ?xt_NoChoice_SlipError ?xl_NoHouse ?xsa_NoHouse ?xga_NoHouse ?xgg_NoHouse ?xha_NoHouse ?xhm_NoHouse ?xf_NoHouse_error ?xf_NoHouse_index ?xf_NoHouse_amount ?xf_NoHouse_house ?xf_NoHouse_version ?xf_NoHouse_limit ?xi_NoHouse ?xit_NoHouse ?xil_NoHouse ?xic_NoHouse ?xk_NoHouse ?xe_NoHouse ?xty_NoHouse ?xd_NoHouse ?xm_NoHouse ?xv_NoHouse ?xt_NoHouse_BadBatch ?xt_NoHouse_BadBook ?xt_NoHouse_BadPile ?xt_NoHouse_BadSlip ?xt_NoHouse_BadText ?xt_NoHouse_Busy ?xt_NoHouse_NoAmount ?xt_NoHouse_NoChoice ?xt_NoHouse_NoHouse ?xt_NoHouse_NoIndex ?xt_NoHouse_NoRing ?xt_NoHouse_NoSettlement ?xt_NoHouse_NotBelow ?xt_NoHouse_NothingToUndo ?xt_NoHouse_NoVersion ?xt_NoHouse_OtherBook ?xt_NoHouse_Overdrawn ?xt_NoHouse_Rejected ?xt_NoHouse_TooDeep ?xt_NoHouse_TooLarge ?xt_NoHouse_TooMany ?xt_NoHouse_TooManyEdits ?xt_NoHouse_TooRich ?xt_NoHouse_SlipError ?xl_NoIndex ?xsa_NoIndex ?xga_NoIndex ?xgg_NoIndex ?xha_NoIndex ?xhm_NoIndex ?xf_NoIndex_error ?xf_NoIndex_index ?xf_NoIndex_amount ?xf_NoIndex_house ?xf_NoIndex_version ?xf_NoIndex_limit ?xi_NoIndex ?xit_NoIndex ?xil_NoIndex ?xic_NoIndex ?xk_NoIndex ?xe_NoIndex ?xty_NoIndex ?xd_NoIndex ?xm_NoIndex ?xv_NoIndex ?xt_NoIndex_BadBatch ?xt_NoIndex_BadBook ?xt_NoIndex_BadPile ?xt_NoIndex_BadSlip ?xt_NoIndex_BadText ?xt_NoIndex_Busy ?xt_NoIndex_NoAmount ?xt_NoIndex_NoChoice ?xt_NoIndex_NoHouse ?xt_NoIndex_NoIndex ?xt_NoIndex_NoRing ?xt_NoIndex_NoSettlement ?xt_NoIndex_NotBelow ?xt_NoIndex_NothingToUndo ?xt_NoIndex_NoVersion ?xt_NoIndex_OtherBook ?xt_NoIndex_Overdrawn ?xt_NoIndex_Rejected ?xt_NoIndex_TooDeep ?xt_NoIndex_TooLarge ?xt_NoIndex_TooMany ?xt_NoIndex_TooManyEdits ?xt_NoIndex_TooRich ?xt_NoIndex_SlipError ?xl_NoRing ?xsa_NoRing ?xga_NoRing ?xgg_NoRing ?xha_NoRing ?xhm_NoRing ?xf_NoRing_error ?xf_NoRing_index ?xf_NoRing_amount ?xf_NoRing_house ?xf_NoRing_version ?xf_NoRing_limit ?xi_NoRing ?xit_NoRing ?xil_NoRing ?xic_NoRing ?xk_NoRing ?xe_NoRing ?xty_NoRing ?xd_NoRing ?xm_NoRing ?xv_NoRing ?xt_NoRing_BadBatch ?xt_NoRing_BadBook ?xt_NoRing_BadPile ?xt_NoRing_BadSlip ?xt_NoRing_BadText ?xt_NoRing_Busy ?xt_NoRing_NoAmount ?xt_NoRing_NoChoice ?xt_NoRing_NoHouse ?xt_NoRing_NoIndex ?xt_NoRing_NoRing ?xt_NoRing_NoSettlement ?xt_NoRing_NotBelow ?xt_NoRing_NothingToUndo ?xt_NoRing_NoVersion ?xt_NoRing_OtherBook ?xt_NoRing_Overdrawn ?xt_NoRing_Rejected ?xt_NoRing_TooDeep ?xt_NoRing_TooLarge ?xt_NoRing_TooMany ?xt_NoRing_TooManyEdits ?xt_NoRing_TooRich ?xt_NoRing_SlipError ?xl_NoSettlement ?xsa_NoSettlement ?xga_NoSettlement ?xgg_NoSettlement ?xha_NoSettlement ?xhm_NoSettlement ?xf_NoSettlement_error ?xf_NoSettlement_index ?xf_NoSettlement_amount ?xf_NoSettlement_house ?xf_NoSettlement_version ?xf_NoSettlement_limit ?xi_NoSettlement ?xit_NoSettlement ?xil_NoSettlement ?xic_NoSettlement ?xk_NoSettlement ?xe_NoSettlement ?xty_NoSettlement ?xd_NoSettlement ?xm_NoSettlement ?xv_NoSettlement ?xt_NoSettlement_BadBatch ?xt_NoSettlement_BadBook ?xt_NoSettlement_BadPile ?xt_NoSettlement_BadSlip ?xt_NoSettlement_BadText ?xt_NoSettlement_Busy ?xt_NoSettlement_NoAmount ?xt_NoSettlement_NoChoice ?xt_NoSettlement_NoHouse ?xt_NoSettlement_NoIndex ?xt_NoSettlement_NoRing ?xt_NoSettlement_NoSettlement ?xt_NoSettlement_NotBelow ?xt_NoSettlement_NothingToUndo ?xt_NoSettlement_NoVersion ?xt_NoSettlement_OtherBook ?xt_NoSettlement_Overdrawn ?xt_NoSettlement_Rejected ?xt_NoSettlement_TooDeep ?xt_NoSettlement_TooLarge ?xt_NoSettlement_TooMany ?xt_NoSettlement_TooManyEdits ?xt_NoSettlement_TooRich ?xt_NoSettlement_SlipError ?xq_NotBelow ?xga_NotBelow ?xgg_NotBelow ?xha_NotBelow ?xhm_NotBelow ?xf_NotBelow_error ?xf_NotBelow_index ?xf_NotBelow_amount ?xf_NotBelow_house ?xf_NotBelow_version ?xf_NotBelow_limit ?xk_NotBelow ?xe_NotBelow ?xty_NotBelow ?xd_NotBelow ?xm_NotBelow ?xv_NotBelow ?xt_NotBelow_BadBatch ?xt_NotBelow_BadBook ?xt_NotBelow_BadPile ?xt_NotBelow_BadSlip ?xt_NotBelow_BadText ?xt_NotBelow_Busy ?xt_NotBelow_NoAmount ?xt_NotBelow_NoChoice ?xt_NotBelow_NoHouse ?xt_NotBelow_NoIndex ?xt_NotBelow_NoRing ?xt_NotBelow_NoSettlement ?xt_NotBelow_NotBelow ?xt_NotBelow_NothingToUndo ?xt_NotBelow_NoVersion ?xt_NotBelow_OtherBook ?xt_NotBelow_Overdrawn ?xt_NotBelow_Rejected ?xt_NotBelow_TooDeep ?xt_NotBelow_TooLarge ?xt_NotBelow_TooMany ?xt_NotBelow_TooManyEdits ?xt_NotBelow_TooRich ?xt_NotBelow_SlipError ?xq_NothingToUndo ?xga_NothingToUndo ?xgg_NothingToUndo ?xha_NothingToUndo ?xhm_NothingToUndo ?xf_NothingToUndo_error ?xf_NothingToUndo_index ?xf_NothingToUndo_amount ?xf_NothingToUndo_house ?xf_NothingToUndo_version ?xf_NothingToUndo_limit ?xk_NothingToUndo ?xe_NothingToUndo ?xty_NothingToUndo ?xd_NothingToUndo ?xm_NothingToUndo ?xv_NothingToUndo ?xt_NothingToUndo_BadBatch ?xt_NothingToUndo_BadBook ?xt_NothingToUndo_BadPile ?xt_NothingToUndo_BadSlip ?xt_NothingToUndo_BadText ?xt_NothingToUndo_Busy ?xt_NothingToUndo_NoAmount ?xt_NothingToUndo_NoChoice ?xt_NothingToUndo_NoHouse ?xt_NothingToUndo_NoIndex ?xt_NothingToUndo_NoRing ?xt_NothingToUndo_NoSettlement ?xt_NothingToUndo_NotBelow ?xt_NothingToUndo_NothingToUndo ?xt_NothingToUndo_NoVersion ?xt_NothingToUndo_OtherBook ?xt_NothingToUndo_Overdrawn ?xt_NothingToUndo_Rejected ?xt_NothingToUndo_TooDeep ?xt_NothingToUndo_TooLarge ?xt_NothingToUndo_TooMany ?xt_NothingToUndo_TooManyEdits ?xt_NothingToUndo_TooRich ?xt_NothingToUndo_SlipError ?xl_NoVersion ?xsa_NoVersion ?xga_NoVersion ?xgg_NoVersion ?xha_NoVersion ?xhm_NoVersion ?xf_NoVersion_error ?xf_NoVersion_index ?xf_NoVersion_amount ?xf_NoVersion_house ?xf_NoVersion_version ?xf_NoVersion_limit ?xi_NoVersion ?xit_NoVersion ?xil_NoVersion ?xic_NoVersion ?xk_NoVersion ?xe_NoVersion ?xty_NoVersion ?xd_NoVersion ?xm_NoVersion ?xv_NoVersion ?xt_NoVersion_BadBatch ?xt_NoVersion_BadBook ?xt_NoVersion_BadPile ?xt_NoVersion_BadSlip ?xt_NoVersion_BadText ?xt_NoVersion_Busy ?xt_NoVersion_NoAmount ?xt_NoVersion_NoChoice ?xt_NoVersion_NoHouse ?xt_NoVersion_NoIndex ?xt_NoVersion_NoRing ?xt_NoVersion_NoSettlement ?xt_NoVersion_NotBelow ?xt_NoVersion_NothingToUndo ?xt_NoVersion_NoVersion ?xt_NoVersion_OtherBook ?xt_NoVersion_Overdrawn ?xt_NoVersion_Rejected ?xt_NoVersion_TooDeep ?xt_NoVersion_TooLarge ?xt_NoVersion_TooMany ?xt_NoVersion_TooManyEdits ?xt_NoVersion_TooRich ?xt_NoVersion_SlipError ?xq_OtherBook ?xga_OtherBook ?xgg_OtherBook ?xha_OtherBook ?xhm_OtherBook ?xf_OtherBook_error ?xf_OtherBook_index ?xf_OtherBook_amount ?xf_OtherBook_house ?xf_OtherBook_version ?xf_OtherBook_limit ?xk_OtherBook ?xe_OtherBook ?xty_OtherBook ?xd_OtherBook ?xm_OtherBook ?xv_OtherBook ?xt_OtherBook_BadBatch ?xt_OtherBook_BadBook ?xt_OtherBook_BadPile ?xt_OtherBook_BadSlip ?xt_OtherBook_BadText ?xt_OtherBook_Busy ?xt_OtherBook_NoAmount ?xt_OtherBook_NoChoice ?xt_OtherBook_NoHouse ?xt_OtherBook_NoIndex ?xt_OtherBook_NoRing ?xt_OtherBook_NoSettlement ?xt_OtherBook_NotBelow ?xt_OtherBook_NothingToUndo ?xt_OtherBook_NoVersion ?xt_OtherBook_OtherBook ?xt_OtherBook_Overdrawn ?xt_OtherBook_Rejected ?xt_OtherBook_TooDeep ?xt_OtherBook_TooLarge ?xt_OtherBook_TooMany ?xt_OtherBook_TooManyEdits ?xt_OtherBook_TooRich ?xt_OtherBook_SlipError ?xl_Overdrawn ?xsa_Overdrawn ?xga_Overdrawn ?xgg_Overdrawn ?xha_Overdrawn ?xhm_Overdrawn ?xf_Overdrawn_error ?xf_Overdrawn_index ?xf_Overdrawn_amount ?xf_Overdrawn_house ?xf_Overdrawn_version ?xf_Overdrawn_limit ?xi_Overdrawn ?xit_Overdrawn ?xil_Overdrawn ?xic_Overdrawn ?xk_Overdrawn ?xe_Overdrawn ?xty_Overdrawn ?xd_Overdrawn ?xm_Overdrawn ?xv_Overdrawn ?xt_Overdrawn_BadBatch ?xt_Overdrawn_BadBook ?xt_Overdrawn_BadPile ?xt_Overdrawn_BadSlip ?xt_Overdrawn_BadText ?xt_Overdrawn_Busy ?xt_Overdrawn_NoAmount ?xt_Overdrawn_NoChoice ?xt_Overdrawn_NoHouse ?xt_Overdrawn_NoIndex ?xt_Overdrawn_NoRing ?xt_Overdrawn_NoSettlement ?xt_Overdrawn_NotBelow ?xt_Overdrawn_NothingToUndo ?xt_Overdrawn_NoVersion ?xt_Overdrawn_OtherBook ?xt_Overdrawn_Overdrawn ?xt_Overdrawn_Rejected ?xt_Overdrawn_TooDeep ?xt_Overdrawn_TooLarge ?xt_Overdrawn_TooMany ?xt_Overdrawn_TooManyEdits ?xt_Overdrawn_TooRich ?xt_Overdrawn_SlipError ?xl_Rejected ?xsa_Rejected ?xga_Rejected ?xgg_Rejected ?xha_Rejected ?xhm_Rejected ?xf_Rejected_error ?xf_Rejected_index ?xf_Rejected_amount ?xf_Rejected_house ?xf_Rejected_version ?xf_Rejected_limit ?xi_Rejected ?xit_Rejected ?xil_Rejected ?xic_Rejected ?xk_Rejected ?xe_Rejected ?xty_Rejected ?xd_Rejected ?xm_Rejected ?xv_Rejected ?xt_Rejected_BadBatch ?xt_Rejected_BadBook ?xt_Rejected_BadPile ?xt_Rejected_BadSlip ?xt_Rejected_BadText ?xt_Rejected_Busy ?xt_Rejected_NoAmount ?xt_Rejected_NoChoice ?xt_Rejected_NoHouse ?xt_Rejected_NoIndex ?xt_Rejected_NoRing ?xt_Rejected_NoSettlement ?xt_Rejected_NotBelow ?xt_Rejected_NothingToUndo ?xt_Rejected_NoVersion ?xt_Rejected_OtherBook ?xt_Rejected_Overdrawn ?xt_Rejected_Rejected ?xt_Rejected_TooDeep ?xt_Rejected_TooLarge ?xt_Rejected_TooMany ?xt_Rejected_TooManyEdits ?xt_Rejected_TooRich ?xt_Rejected_SlipError ?xl_TooDeep ?xsa_TooDeep ?xga_TooDeep ?xgg_TooDeep ?xha_TooDeep ?xhm_TooDeep ?xf_TooDeep_error ?xf_TooDeep_index ?xf_TooDeep_amount ?xf_TooDeep_house ?xf_TooDeep_version ?xf_TooDeep_limit ?xi_TooDeep ?xit_TooDeep ?xil_TooDeep ?xic_TooDeep ?xk_TooDeep ?xe_TooDeep ?xty_TooDeep ?xd_TooDeep ?xm_TooDeep ?xv_TooDeep ?xt_TooDeep_BadBatch ?xt_TooDeep_BadBook ?xt_TooDeep_BadPile ?xt_TooDeep_BadSlip ?xt_TooDeep_BadText ?xt_TooDeep_Busy ?xt_TooDeep_NoAmount ?xt_TooDeep_NoChoice ?xt_TooDeep_NoHouse ?xt_TooDeep_NoIndex ?xt_TooDeep_NoRing ?xt_TooDeep_NoSettlement ?xt_TooDeep_NotBelow ?xt_TooDeep_NothingToUndo ?xt_TooDeep_NoVersion ?xt_TooDeep_OtherBook ?xt_TooDeep_Overdrawn ?xt_TooDeep_Rejected ?xt_TooDeep_TooDeep ?xt_TooDeep_TooLarge ?xt_TooDeep_TooMany ?xt_TooDeep_TooManyEdits ?xt_TooDeep_TooRich ?xt_TooDeep_SlipError ?xl_TooLarge ?xsa_TooLarge ?xga_TooLarge ?xgg_TooLarge ?xha_TooLarge ?xhm_TooLarge ?xf_TooLarge_error ?xf_TooLarge_index ?xf_TooLarge_amount ?xf_TooLarge_house ?xf_TooLarge_version ?xf_TooLarge_limit ?xi_TooLarge ?xit_TooLarge ?xil_TooLarge ?xic_TooLarge ?xk_TooLarge ?xe_TooLarge ?xty_TooLarge ?xd_TooLarge ?xm_TooLarge ?xv_TooLarge ?xt_TooLarge_BadBatch ?xt_TooLarge_BadBook ?xt_TooLarge_BadPile ?xt_TooLarge_BadSlip ?xt_TooLarge_BadText ?xt_TooLarge_Busy ?xt_TooLarge_NoAmount ?xt_TooLarge_NoChoice ?xt_TooLarge_NoHouse ?xt_TooLarge_NoIndex ?xt_TooLarge_NoRing ?xt_TooLarge_NoSettlement ?xt_TooLarge_NotBelow ?xt_TooLarge_NothingToUndo ?xt_TooLarge_NoVersion ?xt_TooLarge_OtherBook ?xt_TooLarge_Overdrawn ?xt_TooLarge_Rejected ?xt_TooLarge_TooDeep ?xt_TooLarge_TooLarge ?xt_TooLarge_TooMany ?xt_TooLarge_TooManyEdits ?xt_TooLarge_TooRich ?xt_TooLarge_SlipError ?xl_TooMany ?xsa_TooMany ?xga_TooMany ?xgg_TooMany ?xha_TooMany ?xhm_TooMany ?xf_TooMany_error ?xf_TooMany_index ?xf_TooMany_amount ?xf_TooMany_house ?xf_TooMany_version ?xf_TooMany_limit ?xi_TooMany ?xit_TooMany ?xil_TooMany ?xic_TooMany ?xk_TooMany ?xe_TooMany ?xty_TooMany ?xd_TooMany ?xm_TooMany ?xv_TooMany ?xt_TooMany_BadBatch ?xt_TooMany_BadBook ?xt_TooMany_BadPile ?xt_TooMany_BadSlip ?xt_TooMany_BadText ?xt_TooMany_Busy ?xt_TooMany_NoAmount ?xt_TooMany_NoChoice ?xt_TooMany_NoHouse ?xt_TooMany_NoIndex ?xt_TooMany_NoRing ?xt_TooMany_NoSettlement ?xt_TooMany_NotBelow ?xt_TooMany_NothingToUndo ?xt_TooMany_NoVersion ?xt_TooMany_OtherBook ?xt_TooMany_Overdrawn ?xt_TooMany_Rejected ?xt_TooMany_TooDeep ?xt_TooMany_TooLarge ?xt_TooMany_TooMany ?xt_TooMany_TooManyEdits ?xt_TooMany_TooRich ?xt_TooMany_SlipError ?xq_TooManyEdits ?xga_TooManyEdits ?xgg_TooManyEdits ?xha_TooManyEdits ?xhm_TooManyEdits ?xf_TooManyEdits_error ?xf_TooManyEdits_index ?xf_TooManyEdits_amount ?xf_TooManyEdits_house ?xf_TooManyEdits_version ?xf_TooManyEdits_limit ?xk_TooManyEdits ?xe_TooManyEdits ?xty_TooManyEdits ?xd_TooManyEdits ?xm_TooManyEdits ?xv_TooManyEdits ?xt_TooManyEdits_BadBatch ?xt_TooManyEdits_BadBook ?xt_TooManyEdits_BadPile ?xt_TooManyEdits_BadSlip ?xt_TooManyEdits_BadText ?xt_TooManyEdits_Busy ?xt_TooManyEdits_NoAmount ?xt_TooManyEdits_NoChoice ?xt_TooManyEdits_NoHouse ?xt_TooManyEdits_NoIndex ?xt_TooManyEdits_NoRing ?xt_TooManyEdits_NoSettlement ?xt_TooManyEdits_NotBelow ?xt_TooManyEdits_NothingToUndo ?xt_TooManyEdits_NoVersion ?xt_TooManyEdits_OtherBook ?xt_TooManyEdits_Overdrawn ?xt_TooManyEdits_Rejected ?xt_TooManyEdits_TooDeep ?xt_TooManyEdits_TooLarge ?xt_TooManyEdits_TooMany ?xt_TooManyEdits_TooManyEdits ?xt_TooManyEdits_TooRich ?xt_TooManyEdits_SlipError ?xl_TooRich ?xsa_TooRich ?xga_TooRich ?xgg_TooRich ?xha_TooRich ?xhm_TooRich ?xf_TooRich_error ?xf_TooRich_index ?xf_TooRich_amount ?xf_TooRich_house ?xf_TooRich_version ?xf_TooRich_limit ?xi_TooRich ?xit_TooRich ?xil_TooRich ?xic_TooRich ?xk_TooRich ?xe_TooRich ?xty_TooRich ?xd_TooRich ?xm_TooRich ?xv_TooRich ?xt_TooRich_BadBatch ?xt_TooRich_BadBook ?xt_TooRich_BadPile ?xt_TooRich_BadSlip ?xt_TooRich_BadText ?xt_TooRich_Busy ?xt_TooRich_NoAmount ?xt_TooRich_NoChoice ?xt_TooRich_NoHouse ?xt_TooRich_NoIndex ?xt_TooRich_NoRing ?xt_TooRich_NoSettlement ?xt_TooRich_NotBelow ?xt_TooRich_NothingToUndo ?xt_TooRich_NoVersion ?xt_TooRich_OtherBook ?xt_TooRich_Overdrawn ?xt_TooRich_Rejected ?xt_TooRich_TooDeep ?xt_TooRich_TooLarge ?xt_TooRich_TooMany ?xt_TooRich_TooManyEdits ?xt_TooRich_TooRich ?xt_TooRich_SlipError
    (case a0 => k_is)
    (case l0 => k_is)
    (case c0 => k_is)
    (case k0 => k_is)
    (case a1 => k_is)
    (case l1 => k_is)
    (case c1 => k_is)
    (case k1 => k_is)
    (case a2 => k_is)
    (case l2 => k_is)
    (case c2 => k_is)
    (case k2 => k_is)
    (case a3 => k_is)
    (case l3 => k_is)
    (case c3 => k_is)
    (case k3 => k_is)
    (case a4 => k_is)
    (case l4 => k_is)
    (case c4 => k_is)
    (case k4 => k_is)
    (case a5 => k_is)
    (case l5 => k_is)
    (case c5 => k_is)
    (case k5 => k_is)
    (case a6 => k_is)
    (case l6 => k_is)
    (case c6 => k_is)
    (case k6 => k_is)
    (case a7 => k_is)
    (case l7 => k_is)
    (case c7 => k_is)
    (case k7 => k_is)
    (case a8 => k_is)
    (case l8 => k_is)
    (case c8 => k_is)
    (case k8 => k_is)
    (case z_ValueError => k_is)
    (case z_abs => k_is)
    (case z_enumerate => k_is)
    (case z_int => k_is)
    (case z_isinstance => k_is)
    (case z_len => k_is)
    (case z_range => k_is)
    (case z_repr => k_is)
    (case m_BATCH => k_is)
    (case r_BATCH => exact ⟨_, rfl⟩)
    (case m_HISTORY => k_is)
    (case r_HISTORY => exact ⟨_, rfl⟩)
    (case m_MAX_AMOUNT => k_is)
    (case r_MAX_AMOUNT => exact ⟨_, rfl⟩)
    (case m_MAX_HOUSES => k_is)
    (case r_MAX_HOUSES => exact ⟨_, rfl⟩)
    (case m_MAX_PURSE => k_is)
    (case r_MAX_PURSE => exact ⟨_, rfl⟩)
    (case m_MAX_SLIPS => k_is)
    (case r_MAX_SLIPS => exact ⟨_, rfl⟩)
    (case m_MAX_STEPS => k_is)
    (case r_MAX_STEPS => exact ⟨_, rfl⟩)
    (case xa_BadBatch => first | k_is | kit_is | decide +kernel)
    (case xa_BadBook => first | k_is | kit_is | decide +kernel)
    (case xa_BadPile => first | k_is | kit_is | decide +kernel)
    (case xa_BadSlip => first | k_is | kit_is | decide +kernel)
    (case xa_BadText => first | k_is | kit_is | decide +kernel)
    (case xa_Busy => first | k_is | kit_is | decide +kernel)
    (case xa_NoAmount => first | k_is | kit_is | decide +kernel)
    (case xa_NoChoice => first | k_is | kit_is | decide +kernel)
    (case xa_NoHouse => first | k_is | kit_is | decide +kernel)
    (case xa_NoIndex => first | k_is | kit_is | decide +kernel)
    (case xa_NoRing => first | k_is | kit_is | decide +kernel)
    (case xa_NoSettlement => first | k_is | kit_is | decide +kernel)
    (case xa_NotBelow => first | k_is | kit_is | decide +kernel)
    (case xa_NothingToUndo => first | k_is | kit_is | decide +kernel)
    (case xa_NoVersion => first | k_is | kit_is | decide +kernel)
    (case xa_OtherBook => first | k_is | kit_is | decide +kernel)
    (case xa_Overdrawn => first | k_is | kit_is | decide +kernel)
    (case xa_Rejected => first | k_is | kit_is | decide +kernel)
    (case xa_TooDeep => first | k_is | kit_is | decide +kernel)
    (case xa_TooLarge => first | k_is | kit_is | decide +kernel)
    (case xa_TooMany => first | k_is | kit_is | decide +kernel)
    (case xa_TooManyEdits => first | k_is | kit_is | decide +kernel)
    (case xa_TooRich => first | k_is | kit_is | decide +kernel)
    (case xa_SlipError => first | k_is | kit_is | decide +kernel)
    (case xbE => first | k_is | kit_is | decide +kernel)
    (case xbD => first | k_is | kit_is | decide +kernel)
    (case xbT => first | k_is | kit_is | decide +kernel)
    (case xhn => first | k_is | kit_is | decide +kernel)
    (case xht => first | k_is | kit_is | decide +kernel)
    (case xq_BadBatch => first | k_exc | k_is | decide +kernel)
    (case xga_BadBatch => first | k_is | kit_is | decide +kernel)
    (case xgg_BadBatch => first | k_is | kit_is | decide +kernel)
    (case xha_BadBatch => first | k_is | kit_is | decide +kernel)
    (case xhm_BadBatch => first | k_is | kit_is | decide +kernel)
    (case xf_BadBatch_error => first | k_is | kit_is | decide +kernel)
    (case xf_BadBatch_index => first | k_is | kit_is | decide +kernel)
    (case xf_BadBatch_amount => first | k_is | kit_is | decide +kernel)
    (case xf_BadBatch_house => first | k_is | kit_is | decide +kernel)
    (case xf_BadBatch_version => first | k_is | kit_is | decide +kernel)
    (case xf_BadBatch_limit => first | k_is | kit_is | decide +kernel)
    (case xk_BadBatch => first | k_is | kit_is | decide +kernel)
    (case xe_BadBatch => first | k_is | kit_is | decide +kernel)
    (case xty_BadBatch => first | k_is | kit_is | decide +kernel)
    (case xd_BadBatch => first | k_is | kit_is | decide +kernel)
    (case xm_BadBatch => first | k_is | kit_is | decide +kernel)
    (case xv_BadBatch => first | k_is | kit_is | decide +kernel)
    (case xt_BadBatch_BadBatch => first | k_is | kit_is | decide +kernel)
    (case xt_BadBatch_BadBook => first | k_is | kit_is | decide +kernel)
    (case xt_BadBatch_BadPile => first | k_is | kit_is | decide +kernel)
    (case xt_BadBatch_BadSlip => first | k_is | kit_is | decide +kernel)
    (case xt_BadBatch_BadText => first | k_is | kit_is | decide +kernel)
    (case xt_BadBatch_Busy => first | k_is | kit_is | decide +kernel)
    (case xt_BadBatch_NoAmount => first | k_is | kit_is | decide +kernel)
    (case xt_BadBatch_NoChoice => first | k_is | kit_is | decide +kernel)
    (case xt_BadBatch_NoHouse => first | k_is | kit_is | decide +kernel)
    (case xt_BadBatch_NoIndex => first | k_is | kit_is | decide +kernel)
    (case xt_BadBatch_NoRing => first | k_is | kit_is | decide +kernel)
    (case xt_BadBatch_NoSettlement => first | k_is | kit_is | decide +kernel)
    (case xt_BadBatch_NotBelow => first | k_is | kit_is | decide +kernel)
    (case xt_BadBatch_NothingToUndo => first | k_is | kit_is | decide +kernel)
    (case xt_BadBatch_NoVersion => first | k_is | kit_is | decide +kernel)
    (case xt_BadBatch_OtherBook => first | k_is | kit_is | decide +kernel)
    (case xt_BadBatch_Overdrawn => first | k_is | kit_is | decide +kernel)
    (case xt_BadBatch_Rejected => first | k_is | kit_is | decide +kernel)
    (case xt_BadBatch_TooDeep => first | k_is | kit_is | decide +kernel)
    (case xt_BadBatch_TooLarge => first | k_is | kit_is | decide +kernel)
    (case xt_BadBatch_TooMany => first | k_is | kit_is | decide +kernel)
    (case xt_BadBatch_TooManyEdits => first | k_is | kit_is | decide +kernel)
    (case xt_BadBatch_TooRich => first | k_is | kit_is | decide +kernel)
    (case xt_BadBatch_SlipError => first | k_is | kit_is | decide +kernel)
    (case xl_BadBook => first | k_is | kit_is | decide +kernel)
    (case xsa_BadBook => first | k_is | kit_is | decide +kernel)
    (case xga_BadBook => first | k_is | kit_is | decide +kernel)
    (case xgg_BadBook => first | k_is | kit_is | decide +kernel)
    (case xha_BadBook => first | k_is | kit_is | decide +kernel)
    (case xhm_BadBook => first | k_is | kit_is | decide +kernel)
    (case xf_BadBook_error => first | k_is | kit_is | decide +kernel)
    (case xf_BadBook_index => first | k_is | kit_is | decide +kernel)
    (case xf_BadBook_amount => first | k_is | kit_is | decide +kernel)
    (case xf_BadBook_house => first | k_is | kit_is | decide +kernel)
    (case xf_BadBook_version => first | k_is | kit_is | decide +kernel)
    (case xf_BadBook_limit => first | k_is | kit_is | decide +kernel)
    (case xi_BadBook => first | k_is | kit_is | decide +kernel)
    (case xit_BadBook => first | k_is | kit_is | decide +kernel)
    (case xil_BadBook => first | k_is | kit_is | decide +kernel)
    (case xic_BadBook => first | k_is | kit_is | decide +kernel)
    (case xk_BadBook => first | k_is | kit_is | decide +kernel)
    (case xe_BadBook => first | k_is | kit_is | decide +kernel)
    (case xty_BadBook => first | k_is | kit_is | decide +kernel)
    (case xd_BadBook => first | k_is | kit_is | decide +kernel)
    (case xm_BadBook => first | k_is | kit_is | decide +kernel)
    (case xv_BadBook => first | k_is | kit_is | decide +kernel)
    (case xt_BadBook_BadBatch => first | k_is | kit_is | decide +kernel)
    (case xt_BadBook_BadBook => first | k_is | kit_is | decide +kernel)
    (case xt_BadBook_BadPile => first | k_is | kit_is | decide +kernel)
    (case xt_BadBook_BadSlip => first | k_is | kit_is | decide +kernel)
    (case xt_BadBook_BadText => first | k_is | kit_is | decide +kernel)
    (case xt_BadBook_Busy => first | k_is | kit_is | decide +kernel)
    (case xt_BadBook_NoAmount => first | k_is | kit_is | decide +kernel)
    (case xt_BadBook_NoChoice => first | k_is | kit_is | decide +kernel)
    (case xt_BadBook_NoHouse => first | k_is | kit_is | decide +kernel)
    (case xt_BadBook_NoIndex => first | k_is | kit_is | decide +kernel)
    (case xt_BadBook_NoRing => first | k_is | kit_is | decide +kernel)
    (case xt_BadBook_NoSettlement => first | k_is | kit_is | decide +kernel)
    (case xt_BadBook_NotBelow => first | k_is | kit_is | decide +kernel)
    (case xt_BadBook_NothingToUndo => first | k_is | kit_is | decide +kernel)
    (case xt_BadBook_NoVersion => first | k_is | kit_is | decide +kernel)
    (case xt_BadBook_OtherBook => first | k_is | kit_is | decide +kernel)
    (case xt_BadBook_Overdrawn => first | k_is | kit_is | decide +kernel)
    (case xt_BadBook_Rejected => first | k_is | kit_is | decide +kernel)
    (case xt_BadBook_TooDeep => first | k_is | kit_is | decide +kernel)
    (case xt_BadBook_TooLarge => first | k_is | kit_is | decide +kernel)
    (case xt_BadBook_TooMany => first | k_is | kit_is | decide +kernel)
    (case xt_BadBook_TooManyEdits => first | k_is | kit_is | decide +kernel)
    (case xt_BadBook_TooRich => first | k_is | kit_is | decide +kernel)
    (case xt_BadBook_SlipError => first | k_is | kit_is | decide +kernel)
    (case xl_BadPile => first | k_is | kit_is | decide +kernel)
    (case xsa_BadPile => first | k_is | kit_is | decide +kernel)
    (case xga_BadPile => first | k_is | kit_is | decide +kernel)
    (case xgg_BadPile => first | k_is | kit_is | decide +kernel)
    (case xha_BadPile => first | k_is | kit_is | decide +kernel)
    (case xhm_BadPile => first | k_is | kit_is | decide +kernel)
    (case xf_BadPile_error => first | k_is | kit_is | decide +kernel)
    (case xf_BadPile_index => first | k_is | kit_is | decide +kernel)
    (case xf_BadPile_amount => first | k_is | kit_is | decide +kernel)
    (case xf_BadPile_house => first | k_is | kit_is | decide +kernel)
    (case xf_BadPile_version => first | k_is | kit_is | decide +kernel)
    (case xf_BadPile_limit => first | k_is | kit_is | decide +kernel)
    (case xi_BadPile => first | k_is | kit_is | decide +kernel)
    (case xit_BadPile => first | k_is | kit_is | decide +kernel)
    (case xil_BadPile => first | k_is | kit_is | decide +kernel)
    (case xic_BadPile => first | k_is | kit_is | decide +kernel)
    (case xk_BadPile => first | k_is | kit_is | decide +kernel)
    (case xe_BadPile => first | k_is | kit_is | decide +kernel)
    (case xty_BadPile => first | k_is | kit_is | decide +kernel)
    (case xd_BadPile => first | k_is | kit_is | decide +kernel)
    (case xm_BadPile => first | k_is | kit_is | decide +kernel)
    (case xv_BadPile => first | k_is | kit_is | decide +kernel)
    (case xt_BadPile_BadBatch => first | k_is | kit_is | decide +kernel)
    (case xt_BadPile_BadBook => first | k_is | kit_is | decide +kernel)
    (case xt_BadPile_BadPile => first | k_is | kit_is | decide +kernel)
    (case xt_BadPile_BadSlip => first | k_is | kit_is | decide +kernel)
    (case xt_BadPile_BadText => first | k_is | kit_is | decide +kernel)
    (case xt_BadPile_Busy => first | k_is | kit_is | decide +kernel)
    (case xt_BadPile_NoAmount => first | k_is | kit_is | decide +kernel)
    (case xt_BadPile_NoChoice => first | k_is | kit_is | decide +kernel)
    (case xt_BadPile_NoHouse => first | k_is | kit_is | decide +kernel)
    (case xt_BadPile_NoIndex => first | k_is | kit_is | decide +kernel)
    (case xt_BadPile_NoRing => first | k_is | kit_is | decide +kernel)
    (case xt_BadPile_NoSettlement => first | k_is | kit_is | decide +kernel)
    (case xt_BadPile_NotBelow => first | k_is | kit_is | decide +kernel)
    (case xt_BadPile_NothingToUndo => first | k_is | kit_is | decide +kernel)
    (case xt_BadPile_NoVersion => first | k_is | kit_is | decide +kernel)
    (case xt_BadPile_OtherBook => first | k_is | kit_is | decide +kernel)
    (case xt_BadPile_Overdrawn => first | k_is | kit_is | decide +kernel)
    (case xt_BadPile_Rejected => first | k_is | kit_is | decide +kernel)
    (case xt_BadPile_TooDeep => first | k_is | kit_is | decide +kernel)
    (case xt_BadPile_TooLarge => first | k_is | kit_is | decide +kernel)
    (case xt_BadPile_TooMany => first | k_is | kit_is | decide +kernel)
    (case xt_BadPile_TooManyEdits => first | k_is | kit_is | decide +kernel)
    (case xt_BadPile_TooRich => first | k_is | kit_is | decide +kernel)
    (case xt_BadPile_SlipError => first | k_is | kit_is | decide +kernel)
    (case xl_BadSlip => first | k_is | kit_is | decide +kernel)
    (case xsa_BadSlip => first | k_is | kit_is | decide +kernel)
    (case xga_BadSlip => first | k_is | kit_is | decide +kernel)
    (case xgg_BadSlip => first | k_is | kit_is | decide +kernel)
    (case xha_BadSlip => first | k_is | kit_is | decide +kernel)
    (case xhm_BadSlip => first | k_is | kit_is | decide +kernel)
    (case xf_BadSlip_error => first | k_is | kit_is | decide +kernel)
    (case xf_BadSlip_index => first | k_is | kit_is | decide +kernel)
    (case xf_BadSlip_amount => first | k_is | kit_is | decide +kernel)
    (case xf_BadSlip_house => first | k_is | kit_is | decide +kernel)
    (case xf_BadSlip_version => first | k_is | kit_is | decide +kernel)
    (case xf_BadSlip_limit => first | k_is | kit_is | decide +kernel)
    (case xi_BadSlip => first | k_is | kit_is | decide +kernel)
    (case xit_BadSlip => first | k_is | kit_is | decide +kernel)
    (case xil_BadSlip => first | k_is | kit_is | decide +kernel)
    (case xic_BadSlip => first | k_is | kit_is | decide +kernel)
    (case xk_BadSlip => first | k_is | kit_is | decide +kernel)
    (case xe_BadSlip => first | k_is | kit_is | decide +kernel)
    (case xty_BadSlip => first | k_is | kit_is | decide +kernel)
    (case xd_BadSlip => first | k_is | kit_is | decide +kernel)
    (case xm_BadSlip => first | k_is | kit_is | decide +kernel)
    (case xv_BadSlip => first | k_is | kit_is | decide +kernel)
    (case xt_BadSlip_BadBatch => first | k_is | kit_is | decide +kernel)
    (case xt_BadSlip_BadBook => first | k_is | kit_is | decide +kernel)
    (case xt_BadSlip_BadPile => first | k_is | kit_is | decide +kernel)
    (case xt_BadSlip_BadSlip => first | k_is | kit_is | decide +kernel)
    (case xt_BadSlip_BadText => first | k_is | kit_is | decide +kernel)
    (case xt_BadSlip_Busy => first | k_is | kit_is | decide +kernel)
    (case xt_BadSlip_NoAmount => first | k_is | kit_is | decide +kernel)
    (case xt_BadSlip_NoChoice => first | k_is | kit_is | decide +kernel)
    (case xt_BadSlip_NoHouse => first | k_is | kit_is | decide +kernel)
    (case xt_BadSlip_NoIndex => first | k_is | kit_is | decide +kernel)
    (case xt_BadSlip_NoRing => first | k_is | kit_is | decide +kernel)
    (case xt_BadSlip_NoSettlement => first | k_is | kit_is | decide +kernel)
    (case xt_BadSlip_NotBelow => first | k_is | kit_is | decide +kernel)
    (case xt_BadSlip_NothingToUndo => first | k_is | kit_is | decide +kernel)
    (case xt_BadSlip_NoVersion => first | k_is | kit_is | decide +kernel)
    (case xt_BadSlip_OtherBook => first | k_is | kit_is | decide +kernel)
    (case xt_BadSlip_Overdrawn => first | k_is | kit_is | decide +kernel)
    (case xt_BadSlip_Rejected => first | k_is | kit_is | decide +kernel)
    (case xt_BadSlip_TooDeep => first | k_is | kit_is | decide +kernel)
    (case xt_BadSlip_TooLarge => first | k_is | kit_is | decide +kernel)
    (case xt_BadSlip_TooMany => first | k_is | kit_is | decide +kernel)
    (case xt_BadSlip_TooManyEdits => first | k_is | kit_is | decide +kernel)
    (case xt_BadSlip_TooRich => first | k_is | kit_is | decide +kernel)
    (case xt_BadSlip_SlipError => first | k_is | kit_is | decide +kernel)
    (case xl_BadText => first | k_is | kit_is | decide +kernel)
    (case xsa_BadText => first | k_is | kit_is | decide +kernel)
    (case xga_BadText => first | k_is | kit_is | decide +kernel)
    (case xgg_BadText => first | k_is | kit_is | decide +kernel)
    (case xha_BadText => first | k_is | kit_is | decide +kernel)
    (case xhm_BadText => first | k_is | kit_is | decide +kernel)
    (case xf_BadText_error => first | k_is | kit_is | decide +kernel)
    (case xf_BadText_index => first | k_is | kit_is | decide +kernel)
    (case xf_BadText_amount => first | k_is | kit_is | decide +kernel)
    (case xf_BadText_house => first | k_is | kit_is | decide +kernel)
    (case xf_BadText_version => first | k_is | kit_is | decide +kernel)
    (case xf_BadText_limit => first | k_is | kit_is | decide +kernel)
    (case xi_BadText => first | k_is | kit_is | decide +kernel)
    (case xit_BadText => first | k_is | kit_is | decide +kernel)
    (case xil_BadText => first | k_is | kit_is | decide +kernel)
    (case xic_BadText => first | k_is | kit_is | decide +kernel)
    (case xk_BadText => first | k_is | kit_is | decide +kernel)
    (case xe_BadText => first | k_is | kit_is | decide +kernel)
    (case xty_BadText => first | k_is | kit_is | decide +kernel)
    (case xd_BadText => first | k_is | kit_is | decide +kernel)
    (case xm_BadText => first | k_is | kit_is | decide +kernel)
    (case xv_BadText => first | k_is | kit_is | decide +kernel)
    (case xt_BadText_BadBatch => first | k_is | kit_is | decide +kernel)
    (case xt_BadText_BadBook => first | k_is | kit_is | decide +kernel)
    (case xt_BadText_BadPile => first | k_is | kit_is | decide +kernel)
    (case xt_BadText_BadSlip => first | k_is | kit_is | decide +kernel)
    (case xt_BadText_BadText => first | k_is | kit_is | decide +kernel)
    (case xt_BadText_Busy => first | k_is | kit_is | decide +kernel)
    (case xt_BadText_NoAmount => first | k_is | kit_is | decide +kernel)
    (case xt_BadText_NoChoice => first | k_is | kit_is | decide +kernel)
    (case xt_BadText_NoHouse => first | k_is | kit_is | decide +kernel)
    (case xt_BadText_NoIndex => first | k_is | kit_is | decide +kernel)
    (case xt_BadText_NoRing => first | k_is | kit_is | decide +kernel)
    (case xt_BadText_NoSettlement => first | k_is | kit_is | decide +kernel)
    (case xt_BadText_NotBelow => first | k_is | kit_is | decide +kernel)
    (case xt_BadText_NothingToUndo => first | k_is | kit_is | decide +kernel)
    (case xt_BadText_NoVersion => first | k_is | kit_is | decide +kernel)
    (case xt_BadText_OtherBook => first | k_is | kit_is | decide +kernel)
    (case xt_BadText_Overdrawn => first | k_is | kit_is | decide +kernel)
    (case xt_BadText_Rejected => first | k_is | kit_is | decide +kernel)
    (case xt_BadText_TooDeep => first | k_is | kit_is | decide +kernel)
    (case xt_BadText_TooLarge => first | k_is | kit_is | decide +kernel)
    (case xt_BadText_TooMany => first | k_is | kit_is | decide +kernel)
    (case xt_BadText_TooManyEdits => first | k_is | kit_is | decide +kernel)
    (case xt_BadText_TooRich => first | k_is | kit_is | decide +kernel)
    (case xt_BadText_SlipError => first | k_is | kit_is | decide +kernel)
    (case xq_Busy => first | k_exc | k_is | decide +kernel)
    (case xga_Busy => first | k_is | kit_is | decide +kernel)
    (case xgg_Busy => first | k_is | kit_is | decide +kernel)
    (case xha_Busy => first | k_is | kit_is | decide +kernel)
    (case xhm_Busy => first | k_is | kit_is | decide +kernel)
    (case xf_Busy_error => first | k_is | kit_is | decide +kernel)
    (case xf_Busy_index => first | k_is | kit_is | decide +kernel)
    (case xf_Busy_amount => first | k_is | kit_is | decide +kernel)
    (case xf_Busy_house => first | k_is | kit_is | decide +kernel)
    (case xf_Busy_version => first | k_is | kit_is | decide +kernel)
    (case xf_Busy_limit => first | k_is | kit_is | decide +kernel)
    (case xk_Busy => first | k_is | kit_is | decide +kernel)
    (case xe_Busy => first | k_is | kit_is | decide +kernel)
    (case xty_Busy => first | k_is | kit_is | decide +kernel)
    (case xd_Busy => first | k_is | kit_is | decide +kernel)
    (case xm_Busy => first | k_is | kit_is | decide +kernel)
    (case xv_Busy => first | k_is | kit_is | decide +kernel)
    (case xt_Busy_BadBatch => first | k_is | kit_is | decide +kernel)
    (case xt_Busy_BadBook => first | k_is | kit_is | decide +kernel)
    (case xt_Busy_BadPile => first | k_is | kit_is | decide +kernel)
    (case xt_Busy_BadSlip => first | k_is | kit_is | decide +kernel)
    (case xt_Busy_BadText => first | k_is | kit_is | decide +kernel)
    (case xt_Busy_Busy => first | k_is | kit_is | decide +kernel)
    (case xt_Busy_NoAmount => first | k_is | kit_is | decide +kernel)
    (case xt_Busy_NoChoice => first | k_is | kit_is | decide +kernel)
    (case xt_Busy_NoHouse => first | k_is | kit_is | decide +kernel)
    (case xt_Busy_NoIndex => first | k_is | kit_is | decide +kernel)
    (case xt_Busy_NoRing => first | k_is | kit_is | decide +kernel)
    (case xt_Busy_NoSettlement => first | k_is | kit_is | decide +kernel)
    (case xt_Busy_NotBelow => first | k_is | kit_is | decide +kernel)
    (case xt_Busy_NothingToUndo => first | k_is | kit_is | decide +kernel)
    (case xt_Busy_NoVersion => first | k_is | kit_is | decide +kernel)
    (case xt_Busy_OtherBook => first | k_is | kit_is | decide +kernel)
    (case xt_Busy_Overdrawn => first | k_is | kit_is | decide +kernel)
    (case xt_Busy_Rejected => first | k_is | kit_is | decide +kernel)
    (case xt_Busy_TooDeep => first | k_is | kit_is | decide +kernel)
    (case xt_Busy_TooLarge => first | k_is | kit_is | decide +kernel)
    (case xt_Busy_TooMany => first | k_is | kit_is | decide +kernel)
    (case xt_Busy_TooManyEdits => first | k_is | kit_is | decide +kernel)
    (case xt_Busy_TooRich => first | k_is | kit_is | decide +kernel)
    (case xt_Busy_SlipError => first | k_is | kit_is | decide +kernel)
    (case xl_NoAmount => first | k_is | kit_is | decide +kernel)
    (case xsa_NoAmount => first | k_is | kit_is | decide +kernel)
    (case xga_NoAmount => first | k_is | kit_is | decide +kernel)
    (case xgg_NoAmount => first | k_is | kit_is | decide +kernel)
    (case xha_NoAmount => first | k_is | kit_is | decide +kernel)
    (case xhm_NoAmount => first | k_is | kit_is | decide +kernel)
    (case xf_NoAmount_error => first | k_is | kit_is | decide +kernel)
    (case xf_NoAmount_index => first | k_is | kit_is | decide +kernel)
    (case xf_NoAmount_amount => first | k_is | kit_is | decide +kernel)
    (case xf_NoAmount_house => first | k_is | kit_is | decide +kernel)
    (case xf_NoAmount_version => first | k_is | kit_is | decide +kernel)
    (case xf_NoAmount_limit => first | k_is | kit_is | decide +kernel)
    (case xi_NoAmount => first | k_is | kit_is | decide +kernel)
    (case xit_NoAmount => first | k_is | kit_is | decide +kernel)
    (case xil_NoAmount => first | k_is | kit_is | decide +kernel)
    (case xic_NoAmount => first | k_is | kit_is | decide +kernel)
    (case xk_NoAmount => first | k_is | kit_is | decide +kernel)
    (case xe_NoAmount => first | k_is | kit_is | decide +kernel)
    (case xty_NoAmount => first | k_is | kit_is | decide +kernel)
    (case xd_NoAmount => first | k_is | kit_is | decide +kernel)
    (case xm_NoAmount => first | k_is | kit_is | decide +kernel)
    (case xv_NoAmount => first | k_is | kit_is | decide +kernel)
    (case xt_NoAmount_BadBatch => first | k_is | kit_is | decide +kernel)
    (case xt_NoAmount_BadBook => first | k_is | kit_is | decide +kernel)
    (case xt_NoAmount_BadPile => first | k_is | kit_is | decide +kernel)
    (case xt_NoAmount_BadSlip => first | k_is | kit_is | decide +kernel)
    (case xt_NoAmount_BadText => first | k_is | kit_is | decide +kernel)
    (case xt_NoAmount_Busy => first | k_is | kit_is | decide +kernel)
    (case xt_NoAmount_NoAmount => first | k_is | kit_is | decide +kernel)
    (case xt_NoAmount_NoChoice => first | k_is | kit_is | decide +kernel)
    (case xt_NoAmount_NoHouse => first | k_is | kit_is | decide +kernel)
    (case xt_NoAmount_NoIndex => first | k_is | kit_is | decide +kernel)
    (case xt_NoAmount_NoRing => first | k_is | kit_is | decide +kernel)
    (case xt_NoAmount_NoSettlement => first | k_is | kit_is | decide +kernel)
    (case xt_NoAmount_NotBelow => first | k_is | kit_is | decide +kernel)
    (case xt_NoAmount_NothingToUndo => first | k_is | kit_is | decide +kernel)
    (case xt_NoAmount_NoVersion => first | k_is | kit_is | decide +kernel)
    (case xt_NoAmount_OtherBook => first | k_is | kit_is | decide +kernel)
    (case xt_NoAmount_Overdrawn => first | k_is | kit_is | decide +kernel)
    (case xt_NoAmount_Rejected => first | k_is | kit_is | decide +kernel)
    (case xt_NoAmount_TooDeep => first | k_is | kit_is | decide +kernel)
    (case xt_NoAmount_TooLarge => first | k_is | kit_is | decide +kernel)
    (case xt_NoAmount_TooMany => first | k_is | kit_is | decide +kernel)
    (case xt_NoAmount_TooManyEdits => first | k_is | kit_is | decide +kernel)
    (case xt_NoAmount_TooRich => first | k_is | kit_is | decide +kernel)
    (case xt_NoAmount_SlipError => first | k_is | kit_is | decide +kernel)
    (case xq_NoChoice => first | k_exc | k_is | decide +kernel)
    (case xga_NoChoice => first | k_is | kit_is | decide +kernel)
    (case xgg_NoChoice => first | k_is | kit_is | decide +kernel)
    (case xha_NoChoice => first | k_is | kit_is | decide +kernel)
    (case xhm_NoChoice => first | k_is | kit_is | decide +kernel)
    (case xf_NoChoice_error => first | k_is | kit_is | decide +kernel)
    (case xf_NoChoice_index => first | k_is | kit_is | decide +kernel)
    (case xf_NoChoice_amount => first | k_is | kit_is | decide +kernel)
    (case xf_NoChoice_house => first | k_is | kit_is | decide +kernel)
    (case xf_NoChoice_version => first | k_is | kit_is | decide +kernel)
    (case xf_NoChoice_limit => first | k_is | kit_is | decide +kernel)
    (case xk_NoChoice => first | k_is | kit_is | decide +kernel)
    (case xe_NoChoice => first | k_is | kit_is | decide +kernel)
    (case xty_NoChoice => first | k_is | kit_is | decide +kernel)
    (case xd_NoChoice => first | k_is | kit_is | decide +kernel)
    (case xm_NoChoice => first | k_is | kit_is | decide +kernel)
    (case xv_NoChoice => first | k_is | kit_is | decide +kernel)
    (case xt_NoChoice_BadBatch => first | k_is | kit_is | decide +kernel)
    (case xt_NoChoice_BadBook => first | k_is | kit_is | decide +kernel)
    (case xt_NoChoice_BadPile => first | k_is | kit_is | decide +kernel)
    (case xt_NoChoice_BadSlip => first | k_is | kit_is | decide +kernel)
    (case xt_NoChoice_BadText => first | k_is | kit_is | decide +kernel)
    (case xt_NoChoice_Busy => first | k_is | kit_is | decide +kernel)
    (case xt_NoChoice_NoAmount => first | k_is | kit_is | decide +kernel)
    (case xt_NoChoice_NoChoice => first | k_is | kit_is | decide +kernel)
    (case xt_NoChoice_NoHouse => first | k_is | kit_is | decide +kernel)
    (case xt_NoChoice_NoIndex => first | k_is | kit_is | decide +kernel)
    (case xt_NoChoice_NoRing => first | k_is | kit_is | decide +kernel)
    (case xt_NoChoice_NoSettlement => first | k_is | kit_is | decide +kernel)
    (case xt_NoChoice_NotBelow => first | k_is | kit_is | decide +kernel)
    (case xt_NoChoice_NothingToUndo => first | k_is | kit_is | decide +kernel)
    (case xt_NoChoice_NoVersion => first | k_is | kit_is | decide +kernel)
    (case xt_NoChoice_OtherBook => first | k_is | kit_is | decide +kernel)
    (case xt_NoChoice_Overdrawn => first | k_is | kit_is | decide +kernel)
    (case xt_NoChoice_Rejected => first | k_is | kit_is | decide +kernel)
    (case xt_NoChoice_TooDeep => first | k_is | kit_is | decide +kernel)
    (case xt_NoChoice_TooLarge => first | k_is | kit_is | decide +kernel)
    (case xt_NoChoice_TooMany => first | k_is | kit_is | decide +kernel)
    (case xt_NoChoice_TooManyEdits => first | k_is | kit_is | decide +kernel)
    (case xt_NoChoice_TooRich => first | k_is | kit_is | decide +kernel)
    (case xt_NoChoice_SlipError => first | k_is | kit_is | decide +kernel)
    (case xl_NoHouse => first | k_is | kit_is | decide +kernel)
    (case xsa_NoHouse => first | k_is | kit_is | decide +kernel)
    (case xga_NoHouse => first | k_is | kit_is | decide +kernel)
    (case xgg_NoHouse => first | k_is | kit_is | decide +kernel)
    (case xha_NoHouse => first | k_is | kit_is | decide +kernel)
    (case xhm_NoHouse => first | k_is | kit_is | decide +kernel)
    (case xf_NoHouse_error => first | k_is | kit_is | decide +kernel)
    (case xf_NoHouse_index => first | k_is | kit_is | decide +kernel)
    (case xf_NoHouse_amount => first | k_is | kit_is | decide +kernel)
    (case xf_NoHouse_house => first | k_is | kit_is | decide +kernel)
    (case xf_NoHouse_version => first | k_is | kit_is | decide +kernel)
    (case xf_NoHouse_limit => first | k_is | kit_is | decide +kernel)
    (case xi_NoHouse => first | k_is | kit_is | decide +kernel)
    (case xit_NoHouse => first | k_is | kit_is | decide +kernel)
    (case xil_NoHouse => first | k_is | kit_is | decide +kernel)
    (case xic_NoHouse => first | k_is | kit_is | decide +kernel)
    (case xk_NoHouse => first | k_is | kit_is | decide +kernel)
    (case xe_NoHouse => first | k_is | kit_is | decide +kernel)
    (case xty_NoHouse => first | k_is | kit_is | decide +kernel)
    (case xd_NoHouse => first | k_is | kit_is | decide +kernel)
    (case xm_NoHouse => first | k_is | kit_is | decide +kernel)
    (case xv_NoHouse => first | k_is | kit_is | decide +kernel)
    (case xt_NoHouse_BadBatch => first | k_is | kit_is | decide +kernel)
    (case xt_NoHouse_BadBook => first | k_is | kit_is | decide +kernel)
    (case xt_NoHouse_BadPile => first | k_is | kit_is | decide +kernel)
    (case xt_NoHouse_BadSlip => first | k_is | kit_is | decide +kernel)
    (case xt_NoHouse_BadText => first | k_is | kit_is | decide +kernel)
    (case xt_NoHouse_Busy => first | k_is | kit_is | decide +kernel)
    (case xt_NoHouse_NoAmount => first | k_is | kit_is | decide +kernel)
    (case xt_NoHouse_NoChoice => first | k_is | kit_is | decide +kernel)
    (case xt_NoHouse_NoHouse => first | k_is | kit_is | decide +kernel)
    (case xt_NoHouse_NoIndex => first | k_is | kit_is | decide +kernel)
    (case xt_NoHouse_NoRing => first | k_is | kit_is | decide +kernel)
    (case xt_NoHouse_NoSettlement => first | k_is | kit_is | decide +kernel)
    (case xt_NoHouse_NotBelow => first | k_is | kit_is | decide +kernel)
    (case xt_NoHouse_NothingToUndo => first | k_is | kit_is | decide +kernel)
    (case xt_NoHouse_NoVersion => first | k_is | kit_is | decide +kernel)
    (case xt_NoHouse_OtherBook => first | k_is | kit_is | decide +kernel)
    (case xt_NoHouse_Overdrawn => first | k_is | kit_is | decide +kernel)
    (case xt_NoHouse_Rejected => first | k_is | kit_is | decide +kernel)
    (case xt_NoHouse_TooDeep => first | k_is | kit_is | decide +kernel)
    (case xt_NoHouse_TooLarge => first | k_is | kit_is | decide +kernel)
    (case xt_NoHouse_TooMany => first | k_is | kit_is | decide +kernel)
    (case xt_NoHouse_TooManyEdits => first | k_is | kit_is | decide +kernel)
    (case xt_NoHouse_TooRich => first | k_is | kit_is | decide +kernel)
    (case xt_NoHouse_SlipError => first | k_is | kit_is | decide +kernel)
    (case xl_NoIndex => first | k_is | kit_is | decide +kernel)
    (case xsa_NoIndex => first | k_is | kit_is | decide +kernel)
    (case xga_NoIndex => first | k_is | kit_is | decide +kernel)
    (case xgg_NoIndex => first | k_is | kit_is | decide +kernel)
    (case xha_NoIndex => first | k_is | kit_is | decide +kernel)
    (case xhm_NoIndex => first | k_is | kit_is | decide +kernel)
    (case xf_NoIndex_error => first | k_is | kit_is | decide +kernel)
    (case xf_NoIndex_index => first | k_is | kit_is | decide +kernel)
    (case xf_NoIndex_amount => first | k_is | kit_is | decide +kernel)
    (case xf_NoIndex_house => first | k_is | kit_is | decide +kernel)
    (case xf_NoIndex_version => first | k_is | kit_is | decide +kernel)
    (case xf_NoIndex_limit => first | k_is | kit_is | decide +kernel)
    (case xi_NoIndex => first | k_is | kit_is | decide +kernel)
    (case xit_NoIndex => first | k_is | kit_is | decide +kernel)
    (case xil_NoIndex => first | k_is | kit_is | decide +kernel)
    (case xic_NoIndex => first | k_is | kit_is | decide +kernel)
    (case xk_NoIndex => first | k_is | kit_is | decide +kernel)
    (case xe_NoIndex => first | k_is | kit_is | decide +kernel)
    (case xty_NoIndex => first | k_is | kit_is | decide +kernel)
    (case xd_NoIndex => first | k_is | kit_is | decide +kernel)
    (case xm_NoIndex => first | k_is | kit_is | decide +kernel)
    (case xv_NoIndex => first | k_is | kit_is | decide +kernel)
    (case xt_NoIndex_BadBatch => first | k_is | kit_is | decide +kernel)
    (case xt_NoIndex_BadBook => first | k_is | kit_is | decide +kernel)
    (case xt_NoIndex_BadPile => first | k_is | kit_is | decide +kernel)
    (case xt_NoIndex_BadSlip => first | k_is | kit_is | decide +kernel)
    (case xt_NoIndex_BadText => first | k_is | kit_is | decide +kernel)
    (case xt_NoIndex_Busy => first | k_is | kit_is | decide +kernel)
    (case xt_NoIndex_NoAmount => first | k_is | kit_is | decide +kernel)
    (case xt_NoIndex_NoChoice => first | k_is | kit_is | decide +kernel)
    (case xt_NoIndex_NoHouse => first | k_is | kit_is | decide +kernel)
    (case xt_NoIndex_NoIndex => first | k_is | kit_is | decide +kernel)
    (case xt_NoIndex_NoRing => first | k_is | kit_is | decide +kernel)
    (case xt_NoIndex_NoSettlement => first | k_is | kit_is | decide +kernel)
    (case xt_NoIndex_NotBelow => first | k_is | kit_is | decide +kernel)
    (case xt_NoIndex_NothingToUndo => first | k_is | kit_is | decide +kernel)
    (case xt_NoIndex_NoVersion => first | k_is | kit_is | decide +kernel)
    (case xt_NoIndex_OtherBook => first | k_is | kit_is | decide +kernel)
    (case xt_NoIndex_Overdrawn => first | k_is | kit_is | decide +kernel)
    (case xt_NoIndex_Rejected => first | k_is | kit_is | decide +kernel)
    (case xt_NoIndex_TooDeep => first | k_is | kit_is | decide +kernel)
    (case xt_NoIndex_TooLarge => first | k_is | kit_is | decide +kernel)
    (case xt_NoIndex_TooMany => first | k_is | kit_is | decide +kernel)
    (case xt_NoIndex_TooManyEdits => first | k_is | kit_is | decide +kernel)
    (case xt_NoIndex_TooRich => first | k_is | kit_is | decide +kernel)
    (case xt_NoIndex_SlipError => first | k_is | kit_is | decide +kernel)
    (case xl_NoRing => first | k_is | kit_is | decide +kernel)
    (case xsa_NoRing => first | k_is | kit_is | decide +kernel)
    (case xga_NoRing => first | k_is | kit_is | decide +kernel)
    (case xgg_NoRing => first | k_is | kit_is | decide +kernel)
    (case xha_NoRing => first | k_is | kit_is | decide +kernel)
    (case xhm_NoRing => first | k_is | kit_is | decide +kernel)
    (case xf_NoRing_error => first | k_is | kit_is | decide +kernel)
    (case xf_NoRing_index => first | k_is | kit_is | decide +kernel)
    (case xf_NoRing_amount => first | k_is | kit_is | decide +kernel)
    (case xf_NoRing_house => first | k_is | kit_is | decide +kernel)
    (case xf_NoRing_version => first | k_is | kit_is | decide +kernel)
    (case xf_NoRing_limit => first | k_is | kit_is | decide +kernel)
    (case xi_NoRing => first | k_is | kit_is | decide +kernel)
    (case xit_NoRing => first | k_is | kit_is | decide +kernel)
    (case xil_NoRing => first | k_is | kit_is | decide +kernel)
    (case xic_NoRing => first | k_is | kit_is | decide +kernel)
    (case xk_NoRing => first | k_is | kit_is | decide +kernel)
    (case xe_NoRing => first | k_is | kit_is | decide +kernel)
    (case xty_NoRing => first | k_is | kit_is | decide +kernel)
    (case xd_NoRing => first | k_is | kit_is | decide +kernel)
    (case xm_NoRing => first | k_is | kit_is | decide +kernel)
    (case xv_NoRing => first | k_is | kit_is | decide +kernel)
    (case xt_NoRing_BadBatch => first | k_is | kit_is | decide +kernel)
    (case xt_NoRing_BadBook => first | k_is | kit_is | decide +kernel)
    (case xt_NoRing_BadPile => first | k_is | kit_is | decide +kernel)
    (case xt_NoRing_BadSlip => first | k_is | kit_is | decide +kernel)
    (case xt_NoRing_BadText => first | k_is | kit_is | decide +kernel)
    (case xt_NoRing_Busy => first | k_is | kit_is | decide +kernel)
    (case xt_NoRing_NoAmount => first | k_is | kit_is | decide +kernel)
    (case xt_NoRing_NoChoice => first | k_is | kit_is | decide +kernel)
    (case xt_NoRing_NoHouse => first | k_is | kit_is | decide +kernel)
    (case xt_NoRing_NoIndex => first | k_is | kit_is | decide +kernel)
    (case xt_NoRing_NoRing => first | k_is | kit_is | decide +kernel)
    (case xt_NoRing_NoSettlement => first | k_is | kit_is | decide +kernel)
    (case xt_NoRing_NotBelow => first | k_is | kit_is | decide +kernel)
    (case xt_NoRing_NothingToUndo => first | k_is | kit_is | decide +kernel)
    (case xt_NoRing_NoVersion => first | k_is | kit_is | decide +kernel)
    (case xt_NoRing_OtherBook => first | k_is | kit_is | decide +kernel)
    (case xt_NoRing_Overdrawn => first | k_is | kit_is | decide +kernel)
    (case xt_NoRing_Rejected => first | k_is | kit_is | decide +kernel)
    (case xt_NoRing_TooDeep => first | k_is | kit_is | decide +kernel)
    (case xt_NoRing_TooLarge => first | k_is | kit_is | decide +kernel)
    (case xt_NoRing_TooMany => first | k_is | kit_is | decide +kernel)
    (case xt_NoRing_TooManyEdits => first | k_is | kit_is | decide +kernel)
    (case xt_NoRing_TooRich => first | k_is | kit_is | decide +kernel)
    (case xt_NoRing_SlipError => first | k_is | kit_is | decide +kernel)
    (case xl_NoSettlement => first | k_is | kit_is | decide +kernel)
    (case xsa_NoSettlement => first | k_is | kit_is | decide +kernel)
    (case xga_NoSettlement => first | k_is | kit_is | decide +kernel)
    (case xgg_NoSettlement => first | k_is | kit_is | decide +kernel)
    (case xha_NoSettlement => first | k_is | kit_is | decide +kernel)
    (case xhm_NoSettlement => first | k_is | kit_is | decide +kernel)
    (case xf_NoSettlement_error => first | k_is | kit_is | decide +kernel)
    (case xf_NoSettlement_index => first | k_is | kit_is | decide +kernel)
    (case xf_NoSettlement_amount => first | k_is | kit_is | decide +kernel)
    (case xf_NoSettlement_house => first | k_is | kit_is | decide +kernel)
    (case xf_NoSettlement_version => first | k_is | kit_is | decide +kernel)
    (case xf_NoSettlement_limit => first | k_is | kit_is | decide +kernel)
    (case xi_NoSettlement => first | k_is | kit_is | decide +kernel)
    (case xit_NoSettlement => first | k_is | kit_is | decide +kernel)
    (case xil_NoSettlement => first | k_is | kit_is | decide +kernel)
    (case xic_NoSettlement => first | k_is | kit_is | decide +kernel)
    (case xk_NoSettlement => first | k_is | kit_is | decide +kernel)
    (case xe_NoSettlement => first | k_is | kit_is | decide +kernel)
    (case xty_NoSettlement => first | k_is | kit_is | decide +kernel)
    (case xd_NoSettlement => first | k_is | kit_is | decide +kernel)
    (case xm_NoSettlement => first | k_is | kit_is | decide +kernel)
    (case xv_NoSettlement => first | k_is | kit_is | decide +kernel)
    (case xt_NoSettlement_BadBatch => first | k_is | kit_is | decide +kernel)
    (case xt_NoSettlement_BadBook => first | k_is | kit_is | decide +kernel)
    (case xt_NoSettlement_BadPile => first | k_is | kit_is | decide +kernel)
    (case xt_NoSettlement_BadSlip => first | k_is | kit_is | decide +kernel)
    (case xt_NoSettlement_BadText => first | k_is | kit_is | decide +kernel)
    (case xt_NoSettlement_Busy => first | k_is | kit_is | decide +kernel)
    (case xt_NoSettlement_NoAmount => first | k_is | kit_is | decide +kernel)
    (case xt_NoSettlement_NoChoice => first | k_is | kit_is | decide +kernel)
    (case xt_NoSettlement_NoHouse => first | k_is | kit_is | decide +kernel)
    (case xt_NoSettlement_NoIndex => first | k_is | kit_is | decide +kernel)
    (case xt_NoSettlement_NoRing => first | k_is | kit_is | decide +kernel)
    (case xt_NoSettlement_NoSettlement => first | k_is | kit_is | decide +kernel)
    (case xt_NoSettlement_NotBelow => first | k_is | kit_is | decide +kernel)
    (case xt_NoSettlement_NothingToUndo => first | k_is | kit_is | decide +kernel)
    (case xt_NoSettlement_NoVersion => first | k_is | kit_is | decide +kernel)
    (case xt_NoSettlement_OtherBook => first | k_is | kit_is | decide +kernel)
    (case xt_NoSettlement_Overdrawn => first | k_is | kit_is | decide +kernel)
    (case xt_NoSettlement_Rejected => first | k_is | kit_is | decide +kernel)
    (case xt_NoSettlement_TooDeep => first | k_is | kit_is | decide +kernel)
    (case xt_NoSettlement_TooLarge => first | k_is | kit_is | decide +kernel)
    (case xt_NoSettlement_TooMany => first | k_is | kit_is | decide +kernel)
    (case xt_NoSettlement_TooManyEdits => first | k_is | kit_is | decide +kernel)
    (case xt_NoSettlement_TooRich => first | k_is | kit_is | decide +kernel)
    (case xt_NoSettlement_SlipError => first | k_is | kit_is | decide +kernel)
    (case xq_NotBelow => first | k_exc | k_is | decide +kernel)
    (case xga_NotBelow => first | k_is | kit_is | decide +kernel)
    (case xgg_NotBelow => first | k_is | kit_is | decide +kernel)
    (case xha_NotBelow => first | k_is | kit_is | decide +kernel)
    (case xhm_NotBelow => first | k_is | kit_is | decide +kernel)
    (case xf_NotBelow_error => first | k_is | kit_is | decide +kernel)
    (case xf_NotBelow_index => first | k_is | kit_is | decide +kernel)
    (case xf_NotBelow_amount => first | k_is | kit_is | decide +kernel)
    (case xf_NotBelow_house => first | k_is | kit_is | decide +kernel)
    (case xf_NotBelow_version => first | k_is | kit_is | decide +kernel)
    (case xf_NotBelow_limit => first | k_is | kit_is | decide +kernel)
    (case xk_NotBelow => first | k_is | kit_is | decide +kernel)
    (case xe_NotBelow => first | k_is | kit_is | decide +kernel)
    (case xty_NotBelow => first | k_is | kit_is | decide +kernel)
    (case xd_NotBelow => first | k_is | kit_is | decide +kernel)
    (case xm_NotBelow => first | k_is | kit_is | decide +kernel)
    (case xv_NotBelow => first | k_is | kit_is | decide +kernel)
    (case xt_NotBelow_BadBatch => first | k_is | kit_is | decide +kernel)
    (case xt_NotBelow_BadBook => first | k_is | kit_is | decide +kernel)
    (case xt_NotBelow_BadPile => first | k_is | kit_is | decide +kernel)
    (case xt_NotBelow_BadSlip => first | k_is | kit_is | decide +kernel)
    (case xt_NotBelow_BadText => first | k_is | kit_is | decide +kernel)
    (case xt_NotBelow_Busy => first | k_is | kit_is | decide +kernel)
    (case xt_NotBelow_NoAmount => first | k_is | kit_is | decide +kernel)
    (case xt_NotBelow_NoChoice => first | k_is | kit_is | decide +kernel)
    (case xt_NotBelow_NoHouse => first | k_is | kit_is | decide +kernel)
    (case xt_NotBelow_NoIndex => first | k_is | kit_is | decide +kernel)
    (case xt_NotBelow_NoRing => first | k_is | kit_is | decide +kernel)
    (case xt_NotBelow_NoSettlement => first | k_is | kit_is | decide +kernel)
    (case xt_NotBelow_NotBelow => first | k_is | kit_is | decide +kernel)
    (case xt_NotBelow_NothingToUndo => first | k_is | kit_is | decide +kernel)
    (case xt_NotBelow_NoVersion => first | k_is | kit_is | decide +kernel)
    (case xt_NotBelow_OtherBook => first | k_is | kit_is | decide +kernel)
    (case xt_NotBelow_Overdrawn => first | k_is | kit_is | decide +kernel)
    (case xt_NotBelow_Rejected => first | k_is | kit_is | decide +kernel)
    (case xt_NotBelow_TooDeep => first | k_is | kit_is | decide +kernel)
    (case xt_NotBelow_TooLarge => first | k_is | kit_is | decide +kernel)
    (case xt_NotBelow_TooMany => first | k_is | kit_is | decide +kernel)
    (case xt_NotBelow_TooManyEdits => first | k_is | kit_is | decide +kernel)
    (case xt_NotBelow_TooRich => first | k_is | kit_is | decide +kernel)
    (case xt_NotBelow_SlipError => first | k_is | kit_is | decide +kernel)
    (case xq_NothingToUndo => first | k_exc | k_is | decide +kernel)
    (case xga_NothingToUndo => first | k_is | kit_is | decide +kernel)
    (case xgg_NothingToUndo => first | k_is | kit_is | decide +kernel)
    (case xha_NothingToUndo => first | k_is | kit_is | decide +kernel)
    (case xhm_NothingToUndo => first | k_is | kit_is | decide +kernel)
    (case xf_NothingToUndo_error => first | k_is | kit_is | decide +kernel)
    (case xf_NothingToUndo_index => first | k_is | kit_is | decide +kernel)
    (case xf_NothingToUndo_amount => first | k_is | kit_is | decide +kernel)
    (case xf_NothingToUndo_house => first | k_is | kit_is | decide +kernel)
    (case xf_NothingToUndo_version => first | k_is | kit_is | decide +kernel)
    (case xf_NothingToUndo_limit => first | k_is | kit_is | decide +kernel)
    (case xk_NothingToUndo => first | k_is | kit_is | decide +kernel)
    (case xe_NothingToUndo => first | k_is | kit_is | decide +kernel)
    (case xty_NothingToUndo => first | k_is | kit_is | decide +kernel)
    (case xd_NothingToUndo => first | k_is | kit_is | decide +kernel)
    (case xm_NothingToUndo => first | k_is | kit_is | decide +kernel)
    (case xv_NothingToUndo => first | k_is | kit_is | decide +kernel)
    (case xt_NothingToUndo_BadBatch => first | k_is | kit_is | decide +kernel)
    (case xt_NothingToUndo_BadBook => first | k_is | kit_is | decide +kernel)
    (case xt_NothingToUndo_BadPile => first | k_is | kit_is | decide +kernel)
    (case xt_NothingToUndo_BadSlip => first | k_is | kit_is | decide +kernel)
    (case xt_NothingToUndo_BadText => first | k_is | kit_is | decide +kernel)
    (case xt_NothingToUndo_Busy => first | k_is | kit_is | decide +kernel)
    (case xt_NothingToUndo_NoAmount => first | k_is | kit_is | decide +kernel)
    (case xt_NothingToUndo_NoChoice => first | k_is | kit_is | decide +kernel)
    (case xt_NothingToUndo_NoHouse => first | k_is | kit_is | decide +kernel)
    (case xt_NothingToUndo_NoIndex => first | k_is | kit_is | decide +kernel)
    (case xt_NothingToUndo_NoRing => first | k_is | kit_is | decide +kernel)
    (case xt_NothingToUndo_NoSettlement => first | k_is | kit_is | decide +kernel)
    (case xt_NothingToUndo_NotBelow => first | k_is | kit_is | decide +kernel)
    (case xt_NothingToUndo_NothingToUndo => first | k_is | kit_is | decide +kernel)
    (case xt_NothingToUndo_NoVersion => first | k_is | kit_is | decide +kernel)
    (case xt_NothingToUndo_OtherBook => first | k_is | kit_is | decide +kernel)
    (case xt_NothingToUndo_Overdrawn => first | k_is | kit_is | decide +kernel)
    (case xt_NothingToUndo_Rejected => first | k_is | kit_is | decide +kernel)
    (case xt_NothingToUndo_TooDeep => first | k_is | kit_is | decide +kernel)
    (case xt_NothingToUndo_TooLarge => first | k_is | kit_is | decide +kernel)
    (case xt_NothingToUndo_TooMany => first | k_is | kit_is | decide +kernel)
    (case xt_NothingToUndo_TooManyEdits => first | k_is | kit_is | decide +kernel)
    (case xt_NothingToUndo_TooRich => first | k_is | kit_is | decide +kernel)
    (case xt_NothingToUndo_SlipError => first | k_is | kit_is | decide +kernel)
    (case xl_NoVersion => first | k_is | kit_is | decide +kernel)
    (case xsa_NoVersion => first | k_is | kit_is | decide +kernel)
    (case xga_NoVersion => first | k_is | kit_is | decide +kernel)
    (case xgg_NoVersion => first | k_is | kit_is | decide +kernel)
    (case xha_NoVersion => first | k_is | kit_is | decide +kernel)
    (case xhm_NoVersion => first | k_is | kit_is | decide +kernel)
    (case xf_NoVersion_error => first | k_is | kit_is | decide +kernel)
    (case xf_NoVersion_index => first | k_is | kit_is | decide +kernel)
    (case xf_NoVersion_amount => first | k_is | kit_is | decide +kernel)
    (case xf_NoVersion_house => first | k_is | kit_is | decide +kernel)
    (case xf_NoVersion_version => first | k_is | kit_is | decide +kernel)
    (case xf_NoVersion_limit => first | k_is | kit_is | decide +kernel)
    (case xi_NoVersion => first | k_is | kit_is | decide +kernel)
    (case xit_NoVersion => first | k_is | kit_is | decide +kernel)
    (case xil_NoVersion => first | k_is | kit_is | decide +kernel)
    (case xic_NoVersion => first | k_is | kit_is | decide +kernel)
    (case xk_NoVersion => first | k_is | kit_is | decide +kernel)
    (case xe_NoVersion => first | k_is | kit_is | decide +kernel)
    (case xty_NoVersion => first | k_is | kit_is | decide +kernel)
    (case xd_NoVersion => first | k_is | kit_is | decide +kernel)
    (case xm_NoVersion => first | k_is | kit_is | decide +kernel)
    (case xv_NoVersion => first | k_is | kit_is | decide +kernel)
    (case xt_NoVersion_BadBatch => first | k_is | kit_is | decide +kernel)
    (case xt_NoVersion_BadBook => first | k_is | kit_is | decide +kernel)
    (case xt_NoVersion_BadPile => first | k_is | kit_is | decide +kernel)
    (case xt_NoVersion_BadSlip => first | k_is | kit_is | decide +kernel)
    (case xt_NoVersion_BadText => first | k_is | kit_is | decide +kernel)
    (case xt_NoVersion_Busy => first | k_is | kit_is | decide +kernel)
    (case xt_NoVersion_NoAmount => first | k_is | kit_is | decide +kernel)
    (case xt_NoVersion_NoChoice => first | k_is | kit_is | decide +kernel)
    (case xt_NoVersion_NoHouse => first | k_is | kit_is | decide +kernel)
    (case xt_NoVersion_NoIndex => first | k_is | kit_is | decide +kernel)
    (case xt_NoVersion_NoRing => first | k_is | kit_is | decide +kernel)
    (case xt_NoVersion_NoSettlement => first | k_is | kit_is | decide +kernel)
    (case xt_NoVersion_NotBelow => first | k_is | kit_is | decide +kernel)
    (case xt_NoVersion_NothingToUndo => first | k_is | kit_is | decide +kernel)
    (case xt_NoVersion_NoVersion => first | k_is | kit_is | decide +kernel)
    (case xt_NoVersion_OtherBook => first | k_is | kit_is | decide +kernel)
    (case xt_NoVersion_Overdrawn => first | k_is | kit_is | decide +kernel)
    (case xt_NoVersion_Rejected => first | k_is | kit_is | decide +kernel)
    (case xt_NoVersion_TooDeep => first | k_is | kit_is | decide +kernel)
    (case xt_NoVersion_TooLarge => first | k_is | kit_is | decide +kernel)
    (case xt_NoVersion_TooMany => first | k_is | kit_is | decide +kernel)
    (case xt_NoVersion_TooManyEdits => first | k_is | kit_is | decide +kernel)
    (case xt_NoVersion_TooRich => first | k_is | kit_is | decide +kernel)
    (case xt_NoVersion_SlipError => first | k_is | kit_is | decide +kernel)
    (case xq_OtherBook => first | k_exc | k_is | decide +kernel)
    (case xga_OtherBook => first | k_is | kit_is | decide +kernel)
    (case xgg_OtherBook => first | k_is | kit_is | decide +kernel)
    (case xha_OtherBook => first | k_is | kit_is | decide +kernel)
    (case xhm_OtherBook => first | k_is | kit_is | decide +kernel)
    (case xf_OtherBook_error => first | k_is | kit_is | decide +kernel)
    (case xf_OtherBook_index => first | k_is | kit_is | decide +kernel)
    (case xf_OtherBook_amount => first | k_is | kit_is | decide +kernel)
    (case xf_OtherBook_house => first | k_is | kit_is | decide +kernel)
    (case xf_OtherBook_version => first | k_is | kit_is | decide +kernel)
    (case xf_OtherBook_limit => first | k_is | kit_is | decide +kernel)
    (case xk_OtherBook => first | k_is | kit_is | decide +kernel)
    (case xe_OtherBook => first | k_is | kit_is | decide +kernel)
    (case xty_OtherBook => first | k_is | kit_is | decide +kernel)
    (case xd_OtherBook => first | k_is | kit_is | decide +kernel)
    (case xm_OtherBook => first | k_is | kit_is | decide +kernel)
    (case xv_OtherBook => first | k_is | kit_is | decide +kernel)
    (case xt_OtherBook_BadBatch => first | k_is | kit_is | decide +kernel)
    (case xt_OtherBook_BadBook => first | k_is | kit_is | decide +kernel)
    (case xt_OtherBook_BadPile => first | k_is | kit_is | decide +kernel)
    (case xt_OtherBook_BadSlip => first | k_is | kit_is | decide +kernel)
    (case xt_OtherBook_BadText => first | k_is | kit_is | decide +kernel)
    (case xt_OtherBook_Busy => first | k_is | kit_is | decide +kernel)
    (case xt_OtherBook_NoAmount => first | k_is | kit_is | decide +kernel)
    (case xt_OtherBook_NoChoice => first | k_is | kit_is | decide +kernel)
    (case xt_OtherBook_NoHouse => first | k_is | kit_is | decide +kernel)
    (case xt_OtherBook_NoIndex => first | k_is | kit_is | decide +kernel)
    (case xt_OtherBook_NoRing => first | k_is | kit_is | decide +kernel)
    (case xt_OtherBook_NoSettlement => first | k_is | kit_is | decide +kernel)
    (case xt_OtherBook_NotBelow => first | k_is | kit_is | decide +kernel)
    (case xt_OtherBook_NothingToUndo => first | k_is | kit_is | decide +kernel)
    (case xt_OtherBook_NoVersion => first | k_is | kit_is | decide +kernel)
    (case xt_OtherBook_OtherBook => first | k_is | kit_is | decide +kernel)
    (case xt_OtherBook_Overdrawn => first | k_is | kit_is | decide +kernel)
    (case xt_OtherBook_Rejected => first | k_is | kit_is | decide +kernel)
    (case xt_OtherBook_TooDeep => first | k_is | kit_is | decide +kernel)
    (case xt_OtherBook_TooLarge => first | k_is | kit_is | decide +kernel)
    (case xt_OtherBook_TooMany => first | k_is | kit_is | decide +kernel)
    (case xt_OtherBook_TooManyEdits => first | k_is | kit_is | decide +kernel)
    (case xt_OtherBook_TooRich => first | k_is | kit_is | decide +kernel)
    (case xt_OtherBook_SlipError => first | k_is | kit_is | decide +kernel)
    (case xl_Overdrawn => first | k_is | kit_is | decide +kernel)
    (case xsa_Overdrawn => first | k_is | kit_is | decide +kernel)
    (case xga_Overdrawn => first | k_is | kit_is | decide +kernel)
    (case xgg_Overdrawn => first | k_is | kit_is | decide +kernel)
    (case xha_Overdrawn => first | k_is | kit_is | decide +kernel)
    (case xhm_Overdrawn => first | k_is | kit_is | decide +kernel)
    (case xf_Overdrawn_error => first | k_is | kit_is | decide +kernel)
    (case xf_Overdrawn_index => first | k_is | kit_is | decide +kernel)
    (case xf_Overdrawn_amount => first | k_is | kit_is | decide +kernel)
    (case xf_Overdrawn_house => first | k_is | kit_is | decide +kernel)
    (case xf_Overdrawn_version => first | k_is | kit_is | decide +kernel)
    (case xf_Overdrawn_limit => first | k_is | kit_is | decide +kernel)
    (case xi_Overdrawn => first | k_is | kit_is | decide +kernel)
    (case xit_Overdrawn => first | k_is | kit_is | decide +kernel)
    (case xil_Overdrawn => first | k_is | kit_is | decide +kernel)
    (case xic_Overdrawn => first | k_is | kit_is | decide +kernel)
    (case xk_Overdrawn => first | k_is | kit_is | decide +kernel)
    (case xe_Overdrawn => first | k_is | kit_is | decide +kernel)
    (case xty_Overdrawn => first | k_is | kit_is | decide +kernel)
    (case xd_Overdrawn => first | k_is | kit_is | decide +kernel)
    (case xm_Overdrawn => first | k_is | kit_is | decide +kernel)
    (case xv_Overdrawn => first | k_is | kit_is | decide +kernel)
    (case xt_Overdrawn_BadBatch => first | k_is | kit_is | decide +kernel)
    (case xt_Overdrawn_BadBook => first | k_is | kit_is | decide +kernel)
    (case xt_Overdrawn_BadPile => first | k_is | kit_is | decide +kernel)
    (case xt_Overdrawn_BadSlip => first | k_is | kit_is | decide +kernel)
    (case xt_Overdrawn_BadText => first | k_is | kit_is | decide +kernel)
    (case xt_Overdrawn_Busy => first | k_is | kit_is | decide +kernel)
    (case xt_Overdrawn_NoAmount => first | k_is | kit_is | decide +kernel)
    (case xt_Overdrawn_NoChoice => first | k_is | kit_is | decide +kernel)
    (case xt_Overdrawn_NoHouse => first | k_is | kit_is | decide +kernel)
    (case xt_Overdrawn_NoIndex => first | k_is | kit_is | decide +kernel)
    (case xt_Overdrawn_NoRing => first | k_is | kit_is | decide +kernel)
    (case xt_Overdrawn_NoSettlement => first | k_is | kit_is | decide +kernel)
    (case xt_Overdrawn_NotBelow => first | k_is | kit_is | decide +kernel)
    (case xt_Overdrawn_NothingToUndo => first | k_is | kit_is | decide +kernel)
    (case xt_Overdrawn_NoVersion => first | k_is | kit_is | decide +kernel)
    (case xt_Overdrawn_OtherBook => first | k_is | kit_is | decide +kernel)
    (case xt_Overdrawn_Overdrawn => first | k_is | kit_is | decide +kernel)
    (case xt_Overdrawn_Rejected => first | k_is | kit_is | decide +kernel)
    (case xt_Overdrawn_TooDeep => first | k_is | kit_is | decide +kernel)
    (case xt_Overdrawn_TooLarge => first | k_is | kit_is | decide +kernel)
    (case xt_Overdrawn_TooMany => first | k_is | kit_is | decide +kernel)
    (case xt_Overdrawn_TooManyEdits => first | k_is | kit_is | decide +kernel)
    (case xt_Overdrawn_TooRich => first | k_is | kit_is | decide +kernel)
    (case xt_Overdrawn_SlipError => first | k_is | kit_is | decide +kernel)
    (case xl_Rejected => first | k_is | kit_is | decide +kernel)
    (case xsa_Rejected => first | k_is | kit_is | decide +kernel)
    (case xga_Rejected => first | k_is | kit_is | decide +kernel)
    (case xgg_Rejected => first | k_is | kit_is | decide +kernel)
    (case xha_Rejected => first | k_is | kit_is | decide +kernel)
    (case xhm_Rejected => first | k_is | kit_is | decide +kernel)
    (case xf_Rejected_error => first | k_is | kit_is | decide +kernel)
    (case xf_Rejected_index => first | k_is | kit_is | decide +kernel)
    (case xf_Rejected_amount => first | k_is | kit_is | decide +kernel)
    (case xf_Rejected_house => first | k_is | kit_is | decide +kernel)
    (case xf_Rejected_version => first | k_is | kit_is | decide +kernel)
    (case xf_Rejected_limit => first | k_is | kit_is | decide +kernel)
    (case xi_Rejected => first | k_is | kit_is | decide +kernel)
    (case xit_Rejected => first | k_is | kit_is | decide +kernel)
    (case xil_Rejected => first | k_is | kit_is | decide +kernel)
    (case xic_Rejected => first | k_is | kit_is | decide +kernel)
    (case xk_Rejected => first | k_is | kit_is | decide +kernel)
    (case xe_Rejected => first | k_is | kit_is | decide +kernel)
    (case xty_Rejected => first | k_is | kit_is | decide +kernel)
    (case xd_Rejected => first | k_is | kit_is | decide +kernel)
    (case xm_Rejected => first | k_is | kit_is | decide +kernel)
    (case xv_Rejected => first | k_is | kit_is | decide +kernel)
    (case xt_Rejected_BadBatch => first | k_is | kit_is | decide +kernel)
    (case xt_Rejected_BadBook => first | k_is | kit_is | decide +kernel)
    (case xt_Rejected_BadPile => first | k_is | kit_is | decide +kernel)
    (case xt_Rejected_BadSlip => first | k_is | kit_is | decide +kernel)
    (case xt_Rejected_BadText => first | k_is | kit_is | decide +kernel)
    (case xt_Rejected_Busy => first | k_is | kit_is | decide +kernel)
    (case xt_Rejected_NoAmount => first | k_is | kit_is | decide +kernel)
    (case xt_Rejected_NoChoice => first | k_is | kit_is | decide +kernel)
    (case xt_Rejected_NoHouse => first | k_is | kit_is | decide +kernel)
    (case xt_Rejected_NoIndex => first | k_is | kit_is | decide +kernel)
    (case xt_Rejected_NoRing => first | k_is | kit_is | decide +kernel)
    (case xt_Rejected_NoSettlement => first | k_is | kit_is | decide +kernel)
    (case xt_Rejected_NotBelow => first | k_is | kit_is | decide +kernel)
    (case xt_Rejected_NothingToUndo => first | k_is | kit_is | decide +kernel)
    (case xt_Rejected_NoVersion => first | k_is | kit_is | decide +kernel)
    (case xt_Rejected_OtherBook => first | k_is | kit_is | decide +kernel)
    (case xt_Rejected_Overdrawn => first | k_is | kit_is | decide +kernel)
    (case xt_Rejected_Rejected => first | k_is | kit_is | decide +kernel)
    (case xt_Rejected_TooDeep => first | k_is | kit_is | decide +kernel)
    (case xt_Rejected_TooLarge => first | k_is | kit_is | decide +kernel)
    (case xt_Rejected_TooMany => first | k_is | kit_is | decide +kernel)
    (case xt_Rejected_TooManyEdits => first | k_is | kit_is | decide +kernel)
    (case xt_Rejected_TooRich => first | k_is | kit_is | decide +kernel)
    (case xt_Rejected_SlipError => first | k_is | kit_is | decide +kernel)
    (case xl_TooDeep => first | k_is | kit_is | decide +kernel)
    (case xsa_TooDeep => first | k_is | kit_is | decide +kernel)
    (case xga_TooDeep => first | k_is | kit_is | decide +kernel)
    (case xgg_TooDeep => first | k_is | kit_is | decide +kernel)
    (case xha_TooDeep => first | k_is | kit_is | decide +kernel)
    (case xhm_TooDeep => first | k_is | kit_is | decide +kernel)
    (case xf_TooDeep_error => first | k_is | kit_is | decide +kernel)
    (case xf_TooDeep_index => first | k_is | kit_is | decide +kernel)
    (case xf_TooDeep_amount => first | k_is | kit_is | decide +kernel)
    (case xf_TooDeep_house => first | k_is | kit_is | decide +kernel)
    (case xf_TooDeep_version => first | k_is | kit_is | decide +kernel)
    (case xf_TooDeep_limit => first | k_is | kit_is | decide +kernel)
    (case xi_TooDeep => first | k_is | kit_is | decide +kernel)
    (case xit_TooDeep => first | k_is | kit_is | decide +kernel)
    (case xil_TooDeep => first | k_is | kit_is | decide +kernel)
    (case xic_TooDeep => first | k_is | kit_is | decide +kernel)
    (case xk_TooDeep => first | k_is | kit_is | decide +kernel)
    (case xe_TooDeep => first | k_is | kit_is | decide +kernel)
    (case xty_TooDeep => first | k_is | kit_is | decide +kernel)
    (case xd_TooDeep => first | k_is | kit_is | decide +kernel)
    (case xm_TooDeep => first | k_is | kit_is | decide +kernel)
    (case xv_TooDeep => first | k_is | kit_is | decide +kernel)
    (case xt_TooDeep_BadBatch => first | k_is | kit_is | decide +kernel)
    (case xt_TooDeep_BadBook => first | k_is | kit_is | decide +kernel)
    (case xt_TooDeep_BadPile => first | k_is | kit_is | decide +kernel)
    (case xt_TooDeep_BadSlip => first | k_is | kit_is | decide +kernel)
    (case xt_TooDeep_BadText => first | k_is | kit_is | decide +kernel)
    (case xt_TooDeep_Busy => first | k_is | kit_is | decide +kernel)
    (case xt_TooDeep_NoAmount => first | k_is | kit_is | decide +kernel)
    (case xt_TooDeep_NoChoice => first | k_is | kit_is | decide +kernel)
    (case xt_TooDeep_NoHouse => first | k_is | kit_is | decide +kernel)
    (case xt_TooDeep_NoIndex => first | k_is | kit_is | decide +kernel)
    (case xt_TooDeep_NoRing => first | k_is | kit_is | decide +kernel)
    (case xt_TooDeep_NoSettlement => first | k_is | kit_is | decide +kernel)
    (case xt_TooDeep_NotBelow => first | k_is | kit_is | decide +kernel)
    (case xt_TooDeep_NothingToUndo => first | k_is | kit_is | decide +kernel)
    (case xt_TooDeep_NoVersion => first | k_is | kit_is | decide +kernel)
    (case xt_TooDeep_OtherBook => first | k_is | kit_is | decide +kernel)
    (case xt_TooDeep_Overdrawn => first | k_is | kit_is | decide +kernel)
    (case xt_TooDeep_Rejected => first | k_is | kit_is | decide +kernel)
    (case xt_TooDeep_TooDeep => first | k_is | kit_is | decide +kernel)
    (case xt_TooDeep_TooLarge => first | k_is | kit_is | decide +kernel)
    (case xt_TooDeep_TooMany => first | k_is | kit_is | decide +kernel)
    (case xt_TooDeep_TooManyEdits => first | k_is | kit_is | decide +kernel)
    (case xt_TooDeep_TooRich => first | k_is | kit_is | decide +kernel)
    (case xt_TooDeep_SlipError => first | k_is | kit_is | decide +kernel)
    (case xl_TooLarge => first | k_is | kit_is | decide +kernel)
    (case xsa_TooLarge => first | k_is | kit_is | decide +kernel)
    (case xga_TooLarge => first | k_is | kit_is | decide +kernel)
    (case xgg_TooLarge => first | k_is | kit_is | decide +kernel)
    (case xha_TooLarge => first | k_is | kit_is | decide +kernel)
    (case xhm_TooLarge => first | k_is | kit_is | decide +kernel)
    (case xf_TooLarge_error => first | k_is | kit_is | decide +kernel)
    (case xf_TooLarge_index => first | k_is | kit_is | decide +kernel)
    (case xf_TooLarge_amount => first | k_is | kit_is | decide +kernel)
    (case xf_TooLarge_house => first | k_is | kit_is | decide +kernel)
    (case xf_TooLarge_version => first | k_is | kit_is | decide +kernel)
    (case xf_TooLarge_limit => first | k_is | kit_is | decide +kernel)
    (case xi_TooLarge => first | k_is | kit_is | decide +kernel)
    (case xit_TooLarge => first | k_is | kit_is | decide +kernel)
    (case xil_TooLarge => first | k_is | kit_is | decide +kernel)
    (case xic_TooLarge => first | k_is | kit_is | decide +kernel)
    (case xk_TooLarge => first | k_is | kit_is | decide +kernel)
    (case xe_TooLarge => first | k_is | kit_is | decide +kernel)
    (case xty_TooLarge => first | k_is | kit_is | decide +kernel)
    (case xd_TooLarge => first | k_is | kit_is | decide +kernel)
    (case xm_TooLarge => first | k_is | kit_is | decide +kernel)
    (case xv_TooLarge => first | k_is | kit_is | decide +kernel)
    (case xt_TooLarge_BadBatch => first | k_is | kit_is | decide +kernel)
    (case xt_TooLarge_BadBook => first | k_is | kit_is | decide +kernel)
    (case xt_TooLarge_BadPile => first | k_is | kit_is | decide +kernel)
    (case xt_TooLarge_BadSlip => first | k_is | kit_is | decide +kernel)
    (case xt_TooLarge_BadText => first | k_is | kit_is | decide +kernel)
    (case xt_TooLarge_Busy => first | k_is | kit_is | decide +kernel)
    (case xt_TooLarge_NoAmount => first | k_is | kit_is | decide +kernel)
    (case xt_TooLarge_NoChoice => first | k_is | kit_is | decide +kernel)
    (case xt_TooLarge_NoHouse => first | k_is | kit_is | decide +kernel)
    (case xt_TooLarge_NoIndex => first | k_is | kit_is | decide +kernel)
    (case xt_TooLarge_NoRing => first | k_is | kit_is | decide +kernel)
    (case xt_TooLarge_NoSettlement => first | k_is | kit_is | decide +kernel)
    (case xt_TooLarge_NotBelow => first | k_is | kit_is | decide +kernel)
    (case xt_TooLarge_NothingToUndo => first | k_is | kit_is | decide +kernel)
    (case xt_TooLarge_NoVersion => first | k_is | kit_is | decide +kernel)
    (case xt_TooLarge_OtherBook => first | k_is | kit_is | decide +kernel)
    (case xt_TooLarge_Overdrawn => first | k_is | kit_is | decide +kernel)
    (case xt_TooLarge_Rejected => first | k_is | kit_is | decide +kernel)
    (case xt_TooLarge_TooDeep => first | k_is | kit_is | decide +kernel)
    (case xt_TooLarge_TooLarge => first | k_is | kit_is | decide +kernel)
    (case xt_TooLarge_TooMany => first | k_is | kit_is | decide +kernel)
    (case xt_TooLarge_TooManyEdits => first | k_is | kit_is | decide +kernel)
    (case xt_TooLarge_TooRich => first | k_is | kit_is | decide +kernel)
    (case xt_TooLarge_SlipError => first | k_is | kit_is | decide +kernel)
    (case xl_TooMany => first | k_is | kit_is | decide +kernel)
    (case xsa_TooMany => first | k_is | kit_is | decide +kernel)
    (case xga_TooMany => first | k_is | kit_is | decide +kernel)
    (case xgg_TooMany => first | k_is | kit_is | decide +kernel)
    (case xha_TooMany => first | k_is | kit_is | decide +kernel)
    (case xhm_TooMany => first | k_is | kit_is | decide +kernel)
    (case xf_TooMany_error => first | k_is | kit_is | decide +kernel)
    (case xf_TooMany_index => first | k_is | kit_is | decide +kernel)
    (case xf_TooMany_amount => first | k_is | kit_is | decide +kernel)
    (case xf_TooMany_house => first | k_is | kit_is | decide +kernel)
    (case xf_TooMany_version => first | k_is | kit_is | decide +kernel)
    (case xf_TooMany_limit => first | k_is | kit_is | decide +kernel)
    (case xi_TooMany => first | k_is | kit_is | decide +kernel)
    (case xit_TooMany => first | k_is | kit_is | decide +kernel)
    (case xil_TooMany => first | k_is | kit_is | decide +kernel)
    (case xic_TooMany => first | k_is | kit_is | decide +kernel)
    (case xk_TooMany => first | k_is | kit_is | decide +kernel)
    (case xe_TooMany => first | k_is | kit_is | decide +kernel)
    (case xty_TooMany => first | k_is | kit_is | decide +kernel)
    (case xd_TooMany => first | k_is | kit_is | decide +kernel)
    (case xm_TooMany => first | k_is | kit_is | decide +kernel)
    (case xv_TooMany => first | k_is | kit_is | decide +kernel)
    (case xt_TooMany_BadBatch => first | k_is | kit_is | decide +kernel)
    (case xt_TooMany_BadBook => first | k_is | kit_is | decide +kernel)
    (case xt_TooMany_BadPile => first | k_is | kit_is | decide +kernel)
    (case xt_TooMany_BadSlip => first | k_is | kit_is | decide +kernel)
    (case xt_TooMany_BadText => first | k_is | kit_is | decide +kernel)
    (case xt_TooMany_Busy => first | k_is | kit_is | decide +kernel)
    (case xt_TooMany_NoAmount => first | k_is | kit_is | decide +kernel)
    (case xt_TooMany_NoChoice => first | k_is | kit_is | decide +kernel)
    (case xt_TooMany_NoHouse => first | k_is | kit_is | decide +kernel)
    (case xt_TooMany_NoIndex => first | k_is | kit_is | decide +kernel)
    (case xt_TooMany_NoRing => first | k_is | kit_is | decide +kernel)
    (case xt_TooMany_NoSettlement => first | k_is | kit_is | decide +kernel)
    (case xt_TooMany_NotBelow => first | k_is | kit_is | decide +kernel)
    (case xt_TooMany_NothingToUndo => first | k_is | kit_is | decide +kernel)
    (case xt_TooMany_NoVersion => first | k_is | kit_is | decide +kernel)
    (case xt_TooMany_OtherBook => first | k_is | kit_is | decide +kernel)
    (case xt_TooMany_Overdrawn => first | k_is | kit_is | decide +kernel)
    (case xt_TooMany_Rejected => first | k_is | kit_is | decide +kernel)
    (case xt_TooMany_TooDeep => first | k_is | kit_is | decide +kernel)
    (case xt_TooMany_TooLarge => first | k_is | kit_is | decide +kernel)
    (case xt_TooMany_TooMany => first | k_is | kit_is | decide +kernel)
    (case xt_TooMany_TooManyEdits => first | k_is | kit_is | decide +kernel)
    (case xt_TooMany_TooRich => first | k_is | kit_is | decide +kernel)
    (case xt_TooMany_SlipError => first | k_is | kit_is | decide +kernel)
    (case xq_TooManyEdits => first | k_exc | k_is | decide +kernel)
    (case xga_TooManyEdits => first | k_is | kit_is | decide +kernel)
    (case xgg_TooManyEdits => first | k_is | kit_is | decide +kernel)
    (case xha_TooManyEdits => first | k_is | kit_is | decide +kernel)
    (case xhm_TooManyEdits => first | k_is | kit_is | decide +kernel)
    (case xf_TooManyEdits_error => first | k_is | kit_is | decide +kernel)
    (case xf_TooManyEdits_index => first | k_is | kit_is | decide +kernel)
    (case xf_TooManyEdits_amount => first | k_is | kit_is | decide +kernel)
    (case xf_TooManyEdits_house => first | k_is | kit_is | decide +kernel)
    (case xf_TooManyEdits_version => first | k_is | kit_is | decide +kernel)
    (case xf_TooManyEdits_limit => first | k_is | kit_is | decide +kernel)
    (case xk_TooManyEdits => first | k_is | kit_is | decide +kernel)
    (case xe_TooManyEdits => first | k_is | kit_is | decide +kernel)
    (case xty_TooManyEdits => first | k_is | kit_is | decide +kernel)
    (case xd_TooManyEdits => first | k_is | kit_is | decide +kernel)
    (case xm_TooManyEdits => first | k_is | kit_is | decide +kernel)
    (case xv_TooManyEdits => first | k_is | kit_is | decide +kernel)
    (case xt_TooManyEdits_BadBatch => first | k_is | kit_is | decide +kernel)
    (case xt_TooManyEdits_BadBook => first | k_is | kit_is | decide +kernel)
    (case xt_TooManyEdits_BadPile => first | k_is | kit_is | decide +kernel)
    (case xt_TooManyEdits_BadSlip => first | k_is | kit_is | decide +kernel)
    (case xt_TooManyEdits_BadText => first | k_is | kit_is | decide +kernel)
    (case xt_TooManyEdits_Busy => first | k_is | kit_is | decide +kernel)
    (case xt_TooManyEdits_NoAmount => first | k_is | kit_is | decide +kernel)
    (case xt_TooManyEdits_NoChoice => first | k_is | kit_is | decide +kernel)
    (case xt_TooManyEdits_NoHouse => first | k_is | kit_is | decide +kernel)
    (case xt_TooManyEdits_NoIndex => first | k_is | kit_is | decide +kernel)
    (case xt_TooManyEdits_NoRing => first | k_is | kit_is | decide +kernel)
    (case xt_TooManyEdits_NoSettlement => first | k_is | kit_is | decide +kernel)
    (case xt_TooManyEdits_NotBelow => first | k_is | kit_is | decide +kernel)
    (case xt_TooManyEdits_NothingToUndo => first | k_is | kit_is | decide +kernel)
    (case xt_TooManyEdits_NoVersion => first | k_is | kit_is | decide +kernel)
    (case xt_TooManyEdits_OtherBook => first | k_is | kit_is | decide +kernel)
    (case xt_TooManyEdits_Overdrawn => first | k_is | kit_is | decide +kernel)
    (case xt_TooManyEdits_Rejected => first | k_is | kit_is | decide +kernel)
    (case xt_TooManyEdits_TooDeep => first | k_is | kit_is | decide +kernel)
    (case xt_TooManyEdits_TooLarge => first | k_is | kit_is | decide +kernel)
    (case xt_TooManyEdits_TooMany => first | k_is | kit_is | decide +kernel)
    (case xt_TooManyEdits_TooManyEdits => first | k_is | kit_is | decide +kernel)
    (case xt_TooManyEdits_TooRich => first | k_is | kit_is | decide +kernel)
    (case xt_TooManyEdits_SlipError => first | k_is | kit_is | decide +kernel)
    (case xl_TooRich => first | k_is | kit_is | decide +kernel)
    (case xsa_TooRich => first | k_is | kit_is | decide +kernel)
    (case xga_TooRich => first | k_is | kit_is | decide +kernel)
    (case xgg_TooRich => first | k_is | kit_is | decide +kernel)
    (case xha_TooRich => first | k_is | kit_is | decide +kernel)
    (case xhm_TooRich => first | k_is | kit_is | decide +kernel)
    (case xf_TooRich_error => first | k_is | kit_is | decide +kernel)
    (case xf_TooRich_index => first | k_is | kit_is | decide +kernel)
    (case xf_TooRich_amount => first | k_is | kit_is | decide +kernel)
    (case xf_TooRich_house => first | k_is | kit_is | decide +kernel)
    (case xf_TooRich_version => first | k_is | kit_is | decide +kernel)
    (case xf_TooRich_limit => first | k_is | kit_is | decide +kernel)
    (case xi_TooRich => first | k_is | kit_is | decide +kernel)
    (case xit_TooRich => first | k_is | kit_is | decide +kernel)
    (case xil_TooRich => first | k_is | kit_is | decide +kernel)
    (case xic_TooRich => first | k_is | kit_is | decide +kernel)
    (case xk_TooRich => first | k_is | kit_is | decide +kernel)
    (case xe_TooRich => first | k_is | kit_is | decide +kernel)
    (case xty_TooRich => first | k_is | kit_is | decide +kernel)
    (case xd_TooRich => first | k_is | kit_is | decide +kernel)
    (case xm_TooRich => first | k_is | kit_is | decide +kernel)
    (case xv_TooRich => first | k_is | kit_is | decide +kernel)
    (case xt_TooRich_BadBatch => first | k_is | kit_is | decide +kernel)
    (case xt_TooRich_BadBook => first | k_is | kit_is | decide +kernel)
    (case xt_TooRich_BadPile => first | k_is | kit_is | decide +kernel)
    (case xt_TooRich_BadSlip => first | k_is | kit_is | decide +kernel)
    (case xt_TooRich_BadText => first | k_is | kit_is | decide +kernel)
    (case xt_TooRich_Busy => first | k_is | kit_is | decide +kernel)
    (case xt_TooRich_NoAmount => first | k_is | kit_is | decide +kernel)
    (case xt_TooRich_NoChoice => first | k_is | kit_is | decide +kernel)
    (case xt_TooRich_NoHouse => first | k_is | kit_is | decide +kernel)
    (case xt_TooRich_NoIndex => first | k_is | kit_is | decide +kernel)
    (case xt_TooRich_NoRing => first | k_is | kit_is | decide +kernel)
    (case xt_TooRich_NoSettlement => first | k_is | kit_is | decide +kernel)
    (case xt_TooRich_NotBelow => first | k_is | kit_is | decide +kernel)
    (case xt_TooRich_NothingToUndo => first | k_is | kit_is | decide +kernel)
    (case xt_TooRich_NoVersion => first | k_is | kit_is | decide +kernel)
    (case xt_TooRich_OtherBook => first | k_is | kit_is | decide +kernel)
    (case xt_TooRich_Overdrawn => first | k_is | kit_is | decide +kernel)
    (case xt_TooRich_Rejected => first | k_is | kit_is | decide +kernel)
    (case xt_TooRich_TooDeep => first | k_is | kit_is | decide +kernel)
    (case xt_TooRich_TooLarge => first | k_is | kit_is | decide +kernel)
    (case xt_TooRich_TooMany => first | k_is | kit_is | decide +kernel)
    (case xt_TooRich_TooManyEdits => first | k_is | kit_is | decide +kernel)
    (case xt_TooRich_TooRich => first | k_is | kit_is | decide +kernel)
    (case xt_TooRich_SlipError => first | k_is | kit_is | decide +kernel)
