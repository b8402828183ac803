import PyProof.Rows.All
import HandS.ForMost
import HandS.ForExc
import HandS.Zip
import HandS.IsInst
import HandS.StrMore
import HandS.Lambda
import HandS.EndTab
import HandS.Evl
import HandS.TupMul
import HandS.TupAny
import HandS.Style
import HandS.ExcOwn
import KE.SortData
import KE.DatumOrd
import KE.KDflt
import PySem.Challenge.RW_placesayings_k66_whole_codes_put_and_rea
import HandS.ExcIs
import KE.DataFind
import Wide.All
import OpenK.AllK
import Wide.FinOn
set_option Elab.async false
set_option linter.all false
set_option maxRecDepth 100000
set_option maxHeartbeats 4000000
/-! A data layer over the hand layer: values as data, expressions and statements as functions on data. -/
namespace DL
open PySem PySem.Spec PyProof.Rows L2

inductive D where
  | non | bl (b : Bool) | int (i : Int) | str (l : List Nat) | tup (ds : List D) | lst (ds : List D) | hnd

/-- the hand's address, the tables of code objects -/
structure HA where
  a : Addr
  T : List (Addr × Str)
instance : Coe HA Addr := ⟨HA.a⟩
mutual
/-- v, over the frozen heap G, is the datum d; ha: the hand's address -/
inductive Rp (K : PySem.W.Frag) (ha : HA) (G : Hp) : D → V → Prop
  | non : Rp K ha G .non .non
  | bl (b : Bool) : Rp K ha G (.bl b) (.bl b)
  | int (i : Int) : Rp K ha G (.int i) (.int i)
  | str (l : List Nat) : Rp K ha G (.str l) (.str ⟨l.toArray⟩)
  | tup {a : Addr} {vs : List V} {ds : List D} : SqT K G a vs → Rps K ha G ds vs → Rp K ha G (.tup ds) (.ref a)
  | lst {a : Addr} {vs : List V} {ds : List D} : G a = some (.lst vs) → Rps K ha G ds vs → Rp K ha G (.lst ds) (.ref a)
  | hnd : Rp K ha G .hnd (.ref ha.a)
inductive Rps (K : PySem.W.Frag) (ha : HA) (G : Hp) : List D → List V → Prop
  | nil : Rps K ha G [] []
  | cons {d : D} {v : V} {ds : List D} {vs : List V} : Rp K ha G d v → Rps K ha G ds vs → Rps K ha G (d :: ds) (v :: vs)
end

abbrev Le (G G' : Hp) : Prop := ∀ a o, G a = some o → G' a = some o
theorem Le.refl (G : Hp) : Le G G := fun _ _ h => h
theorem Le.trans {G G1 G2 : Hp} (a : Le G G1) (b : Le G1 G2) : Le G G2 := fun x o h => b x o (a x o h)
theorem Le.rd {G G' : Hp} {a : Addr} {u : HO} (e : Le G G') (h : Rd G a u) : Rd G' a u := by
  rcases h with h | ⟨o, h⟩
  · exact .inl (e _ _ h)
  · exact .inr ⟨o, e _ _ h⟩
theorem Le.l {K : PySem.W.Frag} {G G' : Hp} {a : Addr} {xs : List V} (e : Le G G') (h : SqL K G a xs) : SqL K G' a xs := h.elim (fun h => .inl (e.rd h)) .inr
theorem Le.t {K : PySem.W.Frag} {G G' : Hp} {a : Addr} {xs : List V} (e : Le G G') (h : SqT K G a xs) : SqT K G' a xs := h.elim (fun h => .inl (e.rd h)) .inr

section
variable {K : PySem.W.Frag} {ha : HA} {G G' : Hp}
mutual
theorem Rp.le (e : Le G G') : ∀ {d : D} {v : V}, Rp K ha G d v → Rp K ha G' d v
  | _, _, .non => .non
  | _, _, .bl b => .bl b
  | _, _, .int i => .int i
  | _, _, .str l => .str l
  | _, _, .tup h r => .tup (e.t h) (Rps.le e r)
  | _, _, .lst h r => .lst (e _ _ h) (Rps.le e r)
  | _, _, .hnd => .hnd
theorem Rps.le (e : Le G G') : ∀ {ds : List D} {vs : List V}, Rps K ha G ds vs → Rps K ha G' ds vs
  | _, _, .nil => .nil
  | _, _, .cons h r => .cons (Rp.le e h) (Rps.le e r)
end
theorem Rps.length : ∀ {ds : List D} {vs : List V}, Rps K ha G ds vs → ds.length = vs.length
  | _, _, .nil => rfl
  | _, _, .cons _ r => congrArg (· + 1) (Rps.length r)
theorem Rps.append : ∀ {ds es : List D} {vs ws : List V}, Rps K ha G ds vs → Rps K ha G es ws → Rps K ha G (ds ++ es) (vs ++ ws)
  | _, _, _, _, .nil, s => s
  | _, _, _, _, .cons h r, s => .cons h (Rps.append r s)
theorem Rps.get : ∀ {ds : List D} {vs : List V} {i : Nat} {d : D}, Rps K ha G ds vs → ds[i]? = some d → ∃ v, vs[i]? = some v ∧ Rp K ha G d v
  | _, _, _, _, .nil, h => by simp at h
  | _, _, 0, _, .cons h _, e => by
    have e' := Option.some.inj (by simpa using e)
    subst e'
    exact ⟨_, rfl, h⟩
  | _, _, i + 1, d, .cons _ r, e => by
    obtain ⟨v, h1, h2⟩ := Rps.get (i := i) (d := d) r (by simpa using e)
    exact ⟨v, by simpa using h1, h2⟩
theorem Rps.getV : ∀ {ds : List D} {vs : List V} {i : Nat} {v : V}, Rps K ha G ds vs → vs[i]? = some v → ∃ d, ds[i]? = some d ∧ Rp K ha G d v
  | _, _, _, _, .nil, h => by simp at h
  | _, _, 0, _, .cons h _, e => by
    have e' := Option.some.inj (by simpa using e)
    subst e'
    exact ⟨_, rfl, h⟩
  | _, _, i + 1, v, .cons _ r, e => by
    obtain ⟨d, h1, h2⟩ := Rps.getV (i := i) (v := v) r (by simpa using e)
    exact ⟨d, by simpa using h1, h2⟩
theorem Rps.set {d : D} {v : V} (h : Rp K ha G d v) : ∀ {ds : List D} {vs : List V} (i : Nat), Rps K ha G ds vs → Rps K ha G (ds.set i d) (vs.set i v)
  | _, _, _, .nil => .nil
  | _, _, 0, .cons _ r => .cons h r
  | _, _, i + 1, .cons q r => .cons q (Rps.set h i r)
theorem Rps.take : ∀ {ds : List D} {vs : List V} (n : Nat), Rps K ha G ds vs → Rps K ha G (ds.take n) (vs.take n)
  | _, _, 0, _ => .nil
  | _, _, _ + 1, .nil => .nil
  | _, _, n + 1, .cons h r => .cons h (Rps.take n r)
theorem Rps.drop : ∀ {ds : List D} {vs : List V} (n : Nat), Rps K ha G ds vs → Rps K ha G (ds.drop n) (vs.drop n)
  | _, _, 0, r => r
  | _, _, _ + 1, .nil => .nil
  | _, _, n + 1, .cons _ r => Rps.drop n r
theorem Rps.reverse {ds : List D} {vs : List V} (h : Rps K ha G ds vs) : Rps K ha G ds.reverse vs.reverse := by
  induction ds generalizing vs with
  | nil => cases h; exact .nil
  | cons d ds ih =>
    cases h with
    | cons h r =>
      rw [List.reverse_cons, List.reverse_cons]
      exact Rps.append (ih r) (.cons h .nil)
theorem Rps.flatten_replicate {ds : List D} {vs : List V} (h : Rps K ha G ds vs) : ∀ n, Rps K ha G (List.replicate n ds).flatten (List.replicate n vs).flatten
  | 0 => .nil
  | n + 1 => by
    rw [List.replicate_succ, List.replicate_succ, List.flatten_cons, List.flatten_cons]
    exact Rps.append h (Rps.flatten_replicate h n)
theorem Rps.dropLast : ∀ {ds : List D} {vs : List V}, Rps K ha G ds vs → Rps K ha G ds.dropLast vs.dropLast
  | _, _, .nil => .nil
  | _, _, .cons h .nil => .nil
  | _, _, .cons h (.cons h2 r) => .cons h (Rps.dropLast (.cons h2 r))
end

structure Hand where
  cells : List Int
  pos : Int
  left : Int
  mix : Int
  cnt : Int
  T : List (Addr × Str)

inductive Sl where
  | val (d : D) | own (ds : List D)
abbrev En := List (Option Sl)

/-- the frame of a def: the hand's address, the heap and its frozen part at the entry -/
structure C where
  ha : HA
  H0 : Hp
  G0 : Hp

abbrev nt (o : HO) : Prop := ∀ ps, o ≠ .tbl ps

def HandAt (K : PySem.W.Frag) (H G : Hp) (ha : Addr) (h : Hand) : Prop :=
  ∃ ca, H ha = some (.lst [.ref ca, .int h.pos, .int h.left, .int h.mix, .int h.cnt]) ∧ G ca = some (.lst (h.cells.map V.int))

structure SI (K : PySem.W.Frag) (c : C) (ρ : En) (h : Hand) (σ : L2.St) (H G : Hp) : Prop where
  sub : ∀ a o, G a = some o → H a = some o
  ntG : ∀ a o, G a = some o → nt o
  g0 : Le c.G0 G
  h0 : ∀ (a : Addr) o, a ≠ c.ha.a → nt o → c.H0 a = some o → H a = some o
  d0 : ∀ a, c.H0 a ≠ none → H a ≠ none
  new : ∀ a, G a ≠ none → c.G0 a ≠ none ∨ c.H0 a = none
  hnd : HandAt K H G c.ha h
  hag : G c.ha = none
  h0a : c.H0 c.ha ≠ none
  len : ρ.length = σ.length
  val : ∀ (i : Nat) (d : D), ρ[i]? = some (some (Sl.val d)) → ∃ v, σ[i]? = some (some v) ∧ Rp K c.ha G d v
  own : ∀ (i : Nat) (ds : List D), ρ[i]? = some (some (Sl.own ds)) → ∃ a vs, σ[i]? = some (some (V.ref a)) ∧ H a = some (.lst vs) ∧ G a = none ∧ c.H0 a = none ∧ Rps K c.ha G ds vs
  apart : ∀ (i j : Nat) (di dj : List D) (a : Addr), ρ[i]? = some (some (Sl.own di)) → ρ[j]? = some (some (Sl.own dj)) → σ[i]? = some (some (V.ref a)) → σ[j]? = some (some (V.ref a)) → i = j
  tab : LamX.Tabs h.T H

/-- from one point of a body to a later one, the frame's slots untouched -/
structure Ext (ha : HA) (H G H' G' : Hp) : Prop where
  keep : ∀ (a : Addr) o, a ≠ ha.a → nt o → H a = some o → H' a = some o
  dom : ∀ a, H a ≠ none → H' a ≠ none
  le : Le G G'
  new : ∀ a, G' a ≠ none → G a ≠ none ∨ H a = none
theorem Ext.refl (ha : HA) (H G : Hp) : Ext ha H G H G := ⟨fun _ _ _ _ h => h, fun _ h => h, Le.refl G, fun _ h => .inl h⟩
theorem Ext.trans {ha : HA} {H G H1 G1 H2 G2 : Hp} (a : Ext ha H G H1 G1) (b : Ext ha H1 G1 H2 G2) : Ext ha H G H2 G2 :=
  ⟨fun x o n t h => b.keep x o n t (a.keep x o n t h), fun x h => b.dom x (a.dom x h), a.le.trans b.le, fun x h => (b.new x h).elim (a.new x) fun z => .inr (by
    cases q : H x with
    | none => rfl
    | some o => exact absurd z (a.dom x (by rw [q]; simp)))⟩

/-- a list is written: the tables stand -/
theorem tabs_upd {T : List (Addr × Str)} {H : Hp} {a : Addr} {vs ws : List V} (h : LamX.Tabs T H) (e : H a = some (.lst vs)) : LamX.Tabs T (upd H a (.lst ws)) := fun p hp => by
  obtain ⟨ps, h1, h2, h3⟩ := h p hp
  refine ⟨ps, ?_, h2, fun pos cv hc => ?_⟩
  · rw [upd_ne fun z => ?_]
    · exact h1
    · rw [z, e] at h1
      cases h1
  · obtain ⟨c, e1, e2⟩ := h3 pos cv hc
    refine ⟨c, e1, ?_⟩
    rw [upd_ne fun z => ?_]
    · exact e2
    · rw [z, e] at e2
      unfold LamX.CodeO at e2
      cases e2

/-- new frozen objects alone -/
structure New (H G H' G' : Hp) : Prop where
  hh : Le H H'
  gg : Le G G'
  sub : Le G' H'
  ntG : ∀ a o, G' a = some o → nt o
  new : ∀ a, G' a ≠ none → G a ≠ none ∨ H a = none
theorem New.ext {ha : HA} {H G H' G' : Hp} (n : New H G H' G') : Ext ha H G H' G' := ⟨fun a o _ _ h => n.hh a o h, fun a h => by
  cases q : H a with
  | none => exact absurd q h
  | some o => rw [n.hh a o q]; simp, n.gg, n.new⟩
section
variable {K : PySem.W.Frag} {c : C} {ρ : En} {h : Hand} {σ : L2.St} {H G H' G' : Hp}
theorem SI.nw (I : SI K c ρ h σ H G) (n : New H G H' G') : SI K c ρ h σ H' G' := by
  have gne : ∀ a, H a ≠ none → G a = none → G' a = none := fun a h1 h2 => by
    cases q : G' a with
    | none => rfl
    | some o =>
      rcases n.new a (by rw [q]; simp) with z | z
      · exact absurd h2 z
      · exact absurd z h1
  refine ⟨n.sub, n.ntG, I.g0.trans n.gg, fun a o ne t e => n.hh _ _ (I.h0 a o ne t e), fun a e => (n.ext (ha := c.ha)).dom a (I.d0 a e), fun a e => ?_, ?_, ?_, I.h0a, I.len, fun i d e => ?_, fun i ds e => ?_, I.apart, I.tab.ext n.hh⟩
  · rcases n.new a e with z | z
    · exact I.new a z
    · exact .inr (by
        cases q : c.H0 a with
        | none => rfl
        | some o => exact absurd z (I.d0 a (by rw [q]; simp)))
  · obtain ⟨ca, e1, e2⟩ := I.hnd
    exact ⟨ca, n.hh _ _ e1, n.gg _ _ e2⟩
  · refine gne _ ?_ I.hag
    obtain ⟨ca, e1, e2⟩ := I.hnd
    rw [e1]; simp
  · obtain ⟨v, e1, e2⟩ := I.val i d e
    exact ⟨v, e1, e2.le n.gg⟩
  · obtain ⟨a, vs, e1, e2, e3, e4, e5⟩ := I.own i ds e
    exact ⟨a, vs, e1, n.hh _ _ e2, gne a (by rw [e2]; simp) e3, e4, e5.le n.gg⟩
theorem SI.fresh0 (I : SI K c ρ h σ H G) {p : Addr} (hp : H p = none) : c.H0 p = none := by
  cases q : c.H0 p with
  | none => rfl
  | some o => exact absurd hp (I.d0 p (by rw [q]; simp))
theorem SI.freshG (I : SI K c ρ h σ H G) {p : Addr} (hp : H p = none) : G p = none := by
  cases q : G p with
  | none => rfl
  | some o => rw [I.sub p o q] at hp; cases hp
theorem SI.ha_some (I : SI K c ρ h σ H G) : H c.ha ≠ none := by
  obtain ⟨ca, e, _⟩ := I.hnd
  rw [e]; simp
theorem New.refl (hs : Le G H) (hn : ∀ a o, G a = some o → nt o) : New H G H G := ⟨Le.refl H, Le.refl G, hs, hn, fun _ h => .inl h⟩
theorem New.trans {H1 G1 H2 G2 : Hp} (a : New H G H1 G1) (b : New H1 G1 H2 G2) : New H G H2 G2 :=
  ⟨a.hh.trans b.hh, a.gg.trans b.gg, b.sub, b.ntG, fun x h => (b.new x h).elim (a.new x) fun z => .inr (by
    cases q : H x with
    | none => rfl
    | some o => rw [a.hh x o q] at z; cases z)⟩
/-- a new object, frozen -/
theorem New.one {p : Addr} {o : HO} (hs : Le G H) (hn : ∀ a o, G a = some o → nt o) (hp : H p = none) (ho : nt o) : New H G (upd H p o) (upd G p o) := by
  have gp : G p = none := by
    cases q : G p with
    | none => rfl
    | some u => rw [hs p u q] at hp; cases hp
  refine ⟨fun a u e => by rw [upd_ne (ne_of_none e hp)]; exact e, fun a u e => by rw [upd_ne (ne_of_none e gp)]; exact e, fun a u e => ?_, fun a u e => ?_, fun a e => ?_⟩
  · by_cases ha : a = p
    · subst ha; rw [upd_same] at e ⊢; exact e
    · rw [upd_ne ha] at e ⊢; exact hs a u e
  · by_cases ha : a = p
    · subst ha; rw [upd_same] at e; cases e; exact ho
    · rw [upd_ne ha] at e; exact hn a u e
  · by_cases ha : a = p
    · subst ha; exact .inr hp
    · rw [upd_ne ha] at e; exact .inl e
/-- a new object, not frozen -/
theorem New.loose {p : Addr} {o : HO} (hs : Le G H) (hn : ∀ a o, G a = some o → nt o) (hp : H p = none) : New H G (upd H p o) G :=
  ⟨fun a u e => by rw [upd_ne (ne_of_none e hp)]; exact e, Le.refl G, fun a u e => by rw [upd_ne (ne_of_none (hs a u e) hp)]; exact hs a u e, hn, fun a e => .inl e⟩
end

/-! ### results -/
inductive RE (α : Type) where
  | ok (a : α) (h : Hand) | err (x : Str) (h : Hand) | stuck
abbrev EM (α : Type) := En → Hand → RE α
def RunE {α : Type} (r : RE α) (k : α → Hand → Prop) (e : Str → Hand → Prop) : Prop := match r with
  | .ok a h => k a h
  | .err x h => e x h
  | .stuck => False
def RE.bind {α β : Type} (r : RE α) (f : α → Hand → RE β) : RE β := match r with
  | .ok a h => f a h
  | .err x h => .err x h
  | .stuck => .stuck
theorem RunE.bind {α β : Type} {r : RE α} {f : α → Hand → RE β} {k : β → Hand → Prop} {e : Str → Hand → Prop} (h : RunE (r.bind f) k e) : RunE r (fun a h' => RunE (f a h') k e) e := by
  cases r with
  | ok a h' => exact h
  | err x h' => exact h
  | stuck => exact h
theorem RunE.mono {α : Type} {r : RE α} {k k' : α → Hand → Prop} {e e' : Str → Hand → Prop} (h : RunE r k e) (hk : ∀ a h, k a h → k' a h) (he : ∀ x h, e x h → e' x h) : RunE r k' e' := by
  cases r with
  | ok a h' => exact hk _ _ h
  | err x h' => exact he _ _ h
  | stuck => exact h
def bindM {α β : Type} (f : EM α) (g : α → EM β) : EM β := fun ρ h => (f ρ h).bind fun a h' => g a ρ h'
def pureM {α : Type} (a : α) : EM α := fun _ h => .ok a h
def lift {α : Type} (o : Option α) : EM α := fun _ h => match o with
  | some a => .ok a h
  | none => .stuck

/-! ### the readings -/
inductive Knd where
  | E | V | L
/-- how a datum and a value belong together: E frozen, V perhaps a list that may still change, L a new list -/
def relK (k : Knd) (K : PySem.W.Frag) (ha : HA) (Hs H G : Hp) (d : D) (v : V) : Prop := match k with
  | .E => Rp K ha G d v
  | .V => Rp K ha G d v ∨ ∃ (a : Addr) (vs : List V) (ds : List D), a ≠ ha.a ∧ d = .lst ds ∧ v = .ref a ∧ H a = some (.lst vs) ∧ Rps K ha G ds vs
  | .L => ∃ p vs ds, d = .lst ds ∧ v = .ref p ∧ Hs p = none ∧ H p = some (.lst vs) ∧ G p = none ∧ Rps K ha G ds vs
abbrev WXd := L2.WX
section
variable (K : PySem.W.Frag) (mg : Str → Option Value) (W : WXd)
def erE (c : C) (ρ : En) (σ : L2.St) (H G : Hp) : Str → Hand → Prop := fun x h' => ∀ H' G' Cx, SI K c ρ h' σ H' G' → Ext c.ha H G H' G' → mg x = some (.ref Cx) → W (.ref Cx) none σ H'
/-- behind a result r of the state (c, ρ, σ, H, G): what Q wants -/
def Pst {α β : Type} (rel : HA → Hp → Hp → Hp → α → β → Prop) (c : C) (ρ : En) (σ : L2.St) (H G : Hp) (Q : β → Hp → Prop) (r : RE α) : Prop :=
  RunE r (fun d h' => ∀ v H' G', SI K c ρ h' σ H' G' → Ext c.ha H G H' G' → rel c.ha H H' G' d v → Q v H') (erE K mg W c ρ σ H G)
/-- the state leads by f to what Q wants; rel: how its value is told -/
def tG {α β : Type} (rel : HA → Hp → Hp → Hp → α → β → Prop) (f : EM α) : L2.St → Hp → (β → Hp → Prop) → Prop := fun σ H Q =>
  ∃ c ρ h G, SI K c ρ h σ H G ∧ Pst K mg W rel c ρ σ H G Q (f ρ h)
def tE (k : Knd) (f : EM D) : TE := tG K mg W (relK k K) f
def tA (f : EM (List D)) : TA := tG K mg W (fun ha _ _ G ds vs => Rps K ha G ds vs) f
def tT (f : EM Bool) : TT := tG K mg W (fun _ _ _ _ a b => a = b) f
end
theorem relK.back {k : Knd} {K : PySem.W.Frag} {ha : HA} {Hs H1 G0 G1 H G : Hp} {d : D} {v : V} (e : Ext ha Hs G0 H1 G1) (r : relK k K ha H1 H G d v) : relK k K ha Hs H G d v := by
  cases k with
  | E => exact r
  | V => exact r
  | L =>
    obtain ⟨p, vs, ds, e1, e2, e3, e4, e5, e6⟩ := r
    refine ⟨p, vs, ds, e1, e2, ?_, e4, e5, e6⟩
    cases q : Hs p with
    | none => rfl
    | some o => exact absurd e3 (e.dom p (by rw [q]; simp))
/-- a view stands through later steps -/
theorem relV_ext {K : PySem.W.Frag} {ha : HA} {Hs Hs' H G H' G' : Hp} {d : D} {v : V} (r : relK .V K ha Hs H G d v) (e : Ext ha H G H' G') : relK .V K ha Hs' H' G' d v := by
  rcases r with r | ⟨a, vs, ds, n, e1, e2, e3, e4⟩
  · exact .inl (r.le e.le)
  · exact .inr ⟨a, vs, ds, n, e1, e2, e.keep _ _ n (fun ps z => by cases z) e3, e4.le e.le⟩

theorem PE.imp {X : Cx} {e : Expr} {t t' : TE} (h : PE X e t) (i : ∀ σ H Q, t' σ H Q → t σ H Q) : PE X e t' := ⟨fun pins s σ H Q I q => h.run pins s σ H Q I (i σ H Q q)⟩
theorem PT.imp {X : Cx} {e : Expr} {t t' : TT} (h : PT X e t) (i : ∀ σ H Q, t' σ H Q → t σ H Q) : PT X e t' := ⟨fun pins s σ H Q I q => h.run pins s σ H Q I (i σ H Q q)⟩
theorem PA.imp {X : Cx} {e : List Expr} {t t' : TA} (h : PA X e t) (i : ∀ σ H Q, t' σ H Q → t σ H Q) : PA X e t' := ⟨fun pos pins s σ H Q I q => h.run pos pins s σ H Q I (i σ H Q q)⟩
theorem PS.imp {X : Cx} {e : Stmt} {t t' : TS} (h : PS X e t) (i : ∀ D σ H, t' D σ H → t D σ H) : PS X e t' := ⟨fun pins s σ H D I q => h.run pins s σ H D I (i D σ H q)⟩
theorem PSs.imp {X : Cx} {e : List Stmt} {t t' : TS} (h : PSs X e t) (i : ∀ D σ H, t' D σ H → t D σ H) : PSs X e t' := ⟨fun pins s σ H D I q => h.run pins s σ H D I (i D σ H q)⟩

section
variable {K : PySem.W.Frag} {mg : Str → Option Value} {W : WXd}
/-- f, then the rest -/
theorem Pst.bind {α β γ δ : Type} {rel : HA → Hp → Hp → Hp → α → β → Prop} {rel' : HA → Hp → Hp → Hp → γ → δ → Prop} {f : EM α} {g : α → EM γ} {c : C} {ρ : En} {h : Hand} {σ : L2.St} {H G : Hp} {Q : δ → Hp → Prop} {Q1 : β → Hp → Prop}
    (q : Pst K mg W rel' c ρ σ H G Q (bindM f g ρ h))
    (hb : ∀ ha Hs G0 H1 G1 H' G' d v, Ext ha Hs G0 H1 G1 → rel' ha H1 H' G' d v → rel' ha Hs H' G' d v)
    (k : ∀ h1 d v H1 G1, SI K c ρ h1 σ H1 G1 → Ext c.ha H G H1 G1 → rel c.ha H H1 G1 d v → Pst K mg W rel' c ρ σ H1 G1 Q (g d ρ h1) → Q1 v H1) :
    Pst K mg W rel c ρ σ H G Q1 (f ρ h) :=
  (RunE.bind q).mono (fun d h1 q1 v H1 G1 I1 E1 r1 => k h1 d v H1 G1 I1 E1 r1 (q1.mono (fun e h2 q2 w H2 G2 I2 E2 r2 => q2 w H2 G2 I2 (E1.trans E2) (hb _ _ _ _ _ _ _ _ _ E1 r2)) fun _ _ z H2 G2 Cx I2 E2 hm => z H2 G2 Cx I2 (E1.trans E2) hm)) fun _ _ z => z
theorem Pst.lift {α β : Type} {rel : HA → Hp → Hp → Hp → α → β → Prop} {c : C} {ρ : En} {h : Hand} {σ : L2.St} {H G : Hp} {Q : β → Hp → Prop} {o : Option α} (q : Pst K mg W rel c ρ σ H G Q (DL.lift o ρ h)) :
    ∃ z, o = some z ∧ ∀ v H' G', SI K c ρ h σ H' G' → Ext c.ha H G H' G' → rel c.ha H H' G' z v → Q v H' := by
  cases o with
  | none => exact (show False from q).elim
  | some z => exact ⟨z, rfl, q⟩
theorem Pst.pure {α β : Type} {rel : HA → Hp → Hp → Hp → α → β → Prop} {c : C} {ρ : En} {h : Hand} {σ : L2.St} {H G : Hp} {Q : β → Hp → Prop} {z : α} (q : Pst K mg W rel c ρ σ H G Q (pureM z ρ h)) :
    ∀ v H' G', SI K c ρ h σ H' G' → Ext c.ha H G H' G' → rel c.ha H H' G' z v → Q v H' := q
theorem bE {k : Knd} : ∀ ha Hs G0 H1 G1 H' G' d v, Ext ha Hs G0 H1 G1 → relK k K ha H1 H' G' d v → relK k K ha Hs H' G' d v := fun _ _ _ _ _ _ _ _ _ e r => r.back e
theorem bA : ∀ (ha : HA) (Hs G0 H1 G1 H' G' : Hp) (d : List D) (v : List V), Ext ha Hs G0 H1 G1 → Rps K ha G' d v → Rps K ha G' d v := fun _ _ _ _ _ _ _ _ _ _ r => r
theorem bT : ∀ (ha : HA) (Hs G0 H1 G1 H' G' : Hp) (d v : Bool), Ext ha Hs G0 H1 G1 → d = v → d = v := fun _ _ _ _ _ _ _ _ _ _ r => r

/-! ### kinds -/
variable {X : Cx} {e : Expr} {f : EM D}
theorem E_of_L (h : PE X e (tE K mg W .L f)) : PE X e (tE K mg W .E f) := PE.imp h fun σ H Q ⟨c, ρ, h0, G, I, q⟩ => ⟨c, ρ, h0, G, I, RunE.mono q (fun d h1 q1 v H1 G1 I1 E1 r1 => by
  obtain ⟨p, vs, ds, rfl, rfl, e3, e4, e5, e6⟩ := r1
  have ne : ∀ a, a ≠ p → upd G1 p (.lst vs) a = G1 a := fun a n => upd_ne n
  have le : Le G1 (upd G1 p (.lst vs)) := fun a o z => by rw [ne a (ne_of_none z e5)]; exact z
  have hne : H1 p ≠ none := by rw [e4]; simp
  have nha : c.ha ≠ p := fun z => by
    have := I.ha_some
    rw [z, e3] at this
    exact this rfl
  have nd : nt (HO.lst vs) := fun ps z => by cases z
  have I2 : SI K c ρ h1 σ H1 (upd G1 p (.lst vs)) := by
    refine ⟨fun a o z => ?_, fun a o z => ?_, I1.g0.trans le, I1.h0, I1.d0, fun a z => ?_, ?_, ?_, I1.h0a, I1.len, fun i d z => ?_, fun i ds' z => ?_, I1.apart, I1.tab⟩
    · by_cases n : a = p
      · subst n; rw [upd_same] at z; cases z; exact e4
      · rw [ne a n] at z; exact I1.sub a o z
    · by_cases n : a = p
      · subst n; rw [upd_same] at z; cases z; exact nd
      · rw [ne a n] at z; exact I1.ntG a o z
    · by_cases n : a = p
      · subst n; exact .inr (I.fresh0 e3)
      · rw [ne a n] at z; exact I1.new a z
    · obtain ⟨ca, z1, z2⟩ := I1.hnd
      exact ⟨ca, z1, le _ _ z2⟩
    · rw [ne _ nha]; exact I1.hag
    · obtain ⟨v, z1, z2⟩ := I1.val i d z
      exact ⟨v, z1, z2.le le⟩
    · obtain ⟨a, vs', z1, z2, z3, z4, z5⟩ := I1.own i ds' z
      refine ⟨a, vs', z1, z2, ?_, z4, z5.le le⟩
      obtain ⟨a0, vs0, y1, y2, _⟩ := I.own i ds' z
      have : a0 = a := by rw [y1] at z1; cases z1; rfl
      subst this
      rw [ne a0 (ne_of_none y2 e3)]
      exact z3
  refine q1 _ H1 (upd G1 p (.lst vs)) I2 ⟨E1.keep, E1.dom, E1.le.trans le, fun a z => ?_⟩ (.lst upd_same (e6.le le))
  by_cases n : a = p
  · subst n; exact .inr e3
  · rw [ne a n] at z; exact E1.new a z) fun _ _ z => z⟩
theorem V_of_E (h : PE X e (tE K mg W .E f)) : PE X e (tE K mg W .V f) := PE.imp h fun σ H Q ⟨c, ρ, h0, G, I, q⟩ => ⟨c, ρ, h0, G, I, RunE.mono q (fun d h1 q1 v H1 G1 I1 E1 r1 => q1 v H1 G1 I1 E1 (.inl r1)) fun _ _ z => z⟩
theorem V_of_L (h : PE X e (tE K mg W .L f)) : PE X e (tE K mg W .V f) := PE.imp h fun σ H Q ⟨c, ρ, h0, G, I, q⟩ => ⟨c, ρ, h0, G, I, RunE.mono q (fun d h1 q1 v H1 G1 I1 E1 r1 => by
  obtain ⟨p, vs, ds, rfl, rfl, e3, e4, e5, e6⟩ := r1
  refine q1 _ H1 G1 I1 E1 (.inr ⟨p, vs, ds, fun z => ?_, rfl, rfl, e4, e6⟩)
  have := I.ha_some
  rw [← z, e3] at this
  exact this rfl) fun _ _ z => z⟩
end
end DL

set_option Elab.async false
set_option linter.all false
set_option maxRecDepth 100000
set_option maxHeartbeats 4000000
namespace DL
open PySem PySem.Spec PyProof.Rows L2

/-! ### data: equality -/
mutual
def toPy : D → PyData
  | .non => .none
  | .bl b => .bool b
  | .int i => .int i
  | .str l => .str ⟨l.toArray⟩
  | .tup ds => .tuple (toPys ds)
  | .lst ds => .list (toPys ds)
  | .hnd => .dict []
def toPys : List D → List PyData
  | [] => []
  | d :: ds => toPy d :: toPys ds
end
mutual
def dep : D → Nat
  | .tup ds => deps ds + 1
  | .lst ds => deps ds + 1
  | _ => 0
def deps : List D → Nat
  | [] => 0
  | d :: ds => max (dep d) (deps ds)
end
mutual
def fine : D → Bool
  | .str l => l.all (· < 0x110000)
  | .tup ds => fines ds
  | .lst ds => fines ds
  | .hnd => false
  | _ => true
def fines : List D → Bool
  | [] => true
  | d :: ds => fine d && fines ds
end
mutual
def beq : D → D → Bool
  | .non, .non => true
  | .bl a, .bl b => a == b
  | .bl a, .int j => (if a then 1 else 0) == j
  | .int i, .bl b => i == (if b then 1 else 0)
  | .int i, .int j => i == j
  | .str x, .str y => x == y
  | .lst xs, .lst ys => beqs xs ys
  | .tup xs, .tup ys => beqs xs ys
  | _, _ => false
def beqs : List D → List D → Bool
  | [], [] => true
  | x :: xs, y :: ys => beq x y && beqs xs ys
  | _, _ => false
end
mutual
theorem eqv_toPy : ∀ d e : D, fine d = true → fine e = true → PyData.eqv (toPy d) (toPy e) = beq d e
  | .non, e, _, h => by cases e <;> first | rfl | (exact absurd h (by simp [fine]))
  | .bl b, e, _, h => by cases e <;> first | rfl | (exact absurd h (by simp [fine]))
  | .int i, e, _, h => by cases e <;> first | rfl | (exact absurd h (by simp [fine]))
  | .str l, e, _, h => by
    cases e <;> first
      | rfl
      | (rename_i m; show ((⟨l.toArray⟩ : Str) == ⟨m.toArray⟩) = (l == m)
         rw [Bool.eq_iff_iff]; simp)
      | (exact absurd h (by simp [fine]))
  | .tup ds, e, h', h => by
    cases e <;> first
      | rfl
      | (rename_i m; exact eqv_toPys ds m h' h)
      | (exact absurd h (by simp [fine]))
  | .lst ds, e, h', h => by
    cases e <;> first
      | rfl
      | (rename_i m; exact eqv_toPys ds m h' h)
      | (exact absurd h (by simp [fine]))
  | .hnd, e, h, _ => absurd h (by simp [fine])
theorem eqv_toPys : ∀ ds es : List D, fines ds = true → fines es = true → PyData.eqvAll (toPys ds) (toPys es) = beqs ds es
  | [], [], _, _ => rfl
  | [], _ :: _, _, _ => rfl
  | _ :: _, [], _, _ => rfl
  | d :: ds, e :: es, h1, h2 => by
    have h1' : fine d = true ∧ fines ds = true := by simpa [fines] using h1
    have h2' : fine e = true ∧ fines es = true := by simpa [fines] using h2
    show (PyData.eqv (toPy d) (toPy e) && PyData.eqvAll (toPys ds) (toPys es)) = (beq d e && beqs ds es)
    rw [eqv_toPy d e h1'.1 h2'.1, eqv_toPys ds es h1'.2 h2'.2]
end
mutual
theorem lay_toPy : ∀ d : D, fine d = true → (toPy d).canLay0 = true
  | .non, _ => rfl
  | .bl _, _ => rfl
  | .int _, _ => rfl
  | .str l, h => by
    show PyData.strOk _ = true
    have h' : l.all (· < 0x110000) = true := h
    simpa [PyData.strOk] using h'
  | .tup ds, h => lay_toPys ds h
  | .lst ds, h => lay_toPys ds h
  | .hnd, h => absurd h (by simp [fine])
theorem lay_toPys : ∀ ds : List D, fines ds = true → PyData.canLayAll0 (toPys ds) = true
  | [], _ => rfl
  | d :: ds, h => by
    have h' : fine d = true ∧ fines ds = true := by simpa [fines] using h
    show (PyData.canLay0 (toPy d) && PyData.canLayAll0 (toPys ds)) = true
    rw [lay_toPy d h'.1, lay_toPys ds h'.2]
    rfl
end
mutual
theorem dep_toPy : ∀ d : D, fine d = true → (toPy d).depth = dep d
  | .non, _ => rfl
  | .bl _, _ => rfl
  | .int _, _ => rfl
  | .str _, _ => rfl
  | .tup ds, h => congrArg (· + 1) (dep_toPys ds h)
  | .lst ds, h => congrArg (· + 1) (dep_toPys ds h)
  | .hnd, h => absurd h (by simp [fine])
theorem dep_toPys : ∀ ds : List D, fines ds = true → PyData.depthAll (toPys ds) = deps ds
  | [], _ => rfl
  | d :: ds, h => by
    have h' : fine d = true ∧ fines ds = true := by simpa [fines] using h
    show max (toPy d).depth (PyData.depthAll (toPys ds)) = max (dep d) (deps ds)
    rw [dep_toPy d h'.1, dep_toPys ds h'.2]
end
def good (d : D) : Bool := fine d && decide (dep d ≤ 64)
theorem good_shaped {d : D} (h : good d = true) : SeqAt.shaped (toPy d) = true ∧ fine d = true := by
  have h' : fine d = true ∧ dep d ≤ 64 := by simpa [good] using h
  refine ⟨?_, h'.1⟩
  show ((toPy d).canLay0 && decide ((toPy d).depth ≤ 64)) = true
  rw [lay_toPy d h'.1, dep_toPy d h'.1, decide_eq_true h'.2]
  rfl
section
variable {K : PySem.W.Frag} {ha : HA} {G H Hs : Hp}
mutual
theorem Rp.dp : ∀ {d : D} {v : V}, Rp K ha G d v → fine d = true → Dp K G v (toPy d)
  | _, _, .non, _ => .non
  | _, _, .bl b, _ => .bl b
  | _, _, .int i, _ => .int i
  | _, _, .str l, _ => .str _
  | _, _, .tup h r, f => .tup h (Rps.dp r f)
  | _, _, .lst h r, f => .lst (.inl (.inl h)) (Rps.dp r f)
  | _, _, .hnd, f => absurd f (by simp [fine])
theorem Rps.dp : ∀ {ds : List D} {vs : List V}, Rps K ha G ds vs → fines ds = true → DpAll K G vs (toPys ds)
  | _, _, .nil, _ => .nil
  | _, _, @Rps.cons _ _ _ d v ds vs h r, f => by
    have f' : fine d = true ∧ fines ds = true := by simpa [fines] using f
    exact .cons (Rp.dp h f'.1) (Rps.dp r f'.2)
end
theorem relV_dp {d : D} {v : V} (r : relK .V K ha Hs H G d v) (le : Le G H) (f : fine d = true) : Dp K H v (toPy d) := by
  rcases r with r | ⟨a, vs, ds, n, rfl, rfl, e3, e4⟩
  · exact (r.le le).dp f
  · exact .lst (.inl (.inl e3)) ((e4.le le).dp f)
end

/-! ### judgements -/
abbrev DE (X : Cx) (W : WXd) (k : Knd) (e : Expr) (f : EM D) : Prop := PE X e (tE X.K X.mg W k f)
abbrev DT (X : Cx) (W : WXd) (e : Expr) (f : EM Bool) : Prop := PT X e (tT X.K X.mg W f)
abbrev DA (X : Cx) (W : WXd) (es : List Expr) (f : EM (List D)) : Prop := PA X es (tA X.K X.mg W f)
inductive Rvs (K : PySem.W.Frag) (ha : HA) (H G : Hp) : List D → List V → Prop
  | nil : Rvs K ha H G [] []
  | cons {d : D} {v : V} {ds : List D} {vs : List V} : relK .V K ha H H G d v → Rvs K ha H G ds vs → Rvs K ha H G (d :: ds) (v :: vs)
def tAV (K : PySem.W.Frag) (mg : Str → Option Value) (W : WXd) (f : EM (List D)) : TA := tG K mg W (fun ha _ H G ds vs => Rvs K ha H G ds vs) f
abbrev DV (X : Cx) (W : WXd) (es : List Expr) (f : EM (List D)) : Prop := PA X es (tAV X.K X.mg W f)
theorem bV {K : PySem.W.Frag} : ∀ (ha : HA) (Hs G0 H1 G1 H' G' : Hp) (d : List D) (v : List V), Ext ha Hs G0 H1 G1 → Rvs K ha H' G' d v → Rvs K ha H' G' d v := fun _ _ _ _ _ _ _ _ _ _ r => r

section
variable {X : Cx} {W : WXd} {k : Knd}

/-! ### names, constants -/
def nameM (i : Nat) : EM D := fun ρ h => match ρ[i]? with
  | some (some (.val d)) => .ok d h
  | _ => .stuck
def viewM (i : Nat) : EM D := fun ρ h => match ρ[i]? with
  | some (some (.val d)) => .ok d h
  | some (some (.own ds)) => .ok (.lst ds) h
  | _ => .stuck
theorem e_name (i : Nat) {x : Str} {pos : Pos} (hN : X.N[i]? = some x := by rfl) (hv : Vis X.env.scope x := by first | exact Or.inl rfl | exact Or.inr (Or.inl rfl) | exact Or.inr (Or.inr rfl)) (hd : (x == ("__debug__" : Str)) = false := by decide)
    (hcd : (x == ("__classdict__" : Str)) = false := by decide) : DE X W .E (.Name x pos) (nameM i) := PE.imp (pe_var hN hv hd hcd) fun σ H Q ⟨c, ρ, h, G, I, q⟩ => by
  unfold nameM at q
  cases e : ρ[i]? with
  | none => rw [e] at q; exact False.elim q
  | some o =>
    cases o with
    | none => rw [e] at q; exact False.elim q
    | some sl =>
      cases sl with
      | own ds => rw [e] at q; exact False.elim q
      | val d =>
        rw [e] at q
        obtain ⟨v, e1, e2⟩ := I.val i d e
        exact ⟨v, e1, q v H G I (Ext.refl _ _ _) e2⟩
theorem e_view (i : Nat) {x : Str} {pos : Pos} (hN : X.N[i]? = some x := by rfl) (hv : Vis X.env.scope x := by first | exact Or.inl rfl | exact Or.inr (Or.inl rfl) | exact Or.inr (Or.inr rfl)) (hd : (x == ("__debug__" : Str)) = false := by decide)
    (hcd : (x == ("__classdict__" : Str)) = false := by decide) : DE X W .V (.Name x pos) (viewM i) := PE.imp (pe_var hN hv hd hcd) fun σ H Q ⟨c, ρ, h, G, I, q⟩ => by
  unfold viewM at q
  cases e : ρ[i]? with
  | none => rw [e] at q; exact False.elim q
  | some o =>
    cases o with
    | none => rw [e] at q; exact False.elim q
    | some sl =>
      cases sl with
      | own ds =>
        rw [e] at q
        obtain ⟨a, vs, e1, e2, e3, e4, e5⟩ := I.own i ds e
        refine ⟨.ref a, e1, q _ H G I (Ext.refl _ _ _) (.inr ⟨a, vs, ds, fun z => ?_, rfl, rfl, e2, e5⟩)⟩
        rw [z] at e4
        exact I.h0a e4
      | val d =>
        rw [e] at q
        obtain ⟨v, e1, e2⟩ := I.val i d e
        exact ⟨v, e1, q v H G I (Ext.refl _ _ _) (.inl e2)⟩
/-- a constant's value is the datum d over every heap -/
theorem of_c {e : Expr} {v : V} {d : D} (h : PE X e (tC v)) (r : ∀ ha G, Rp X.K ha G d v) : DE X W .E e (pureM d) := PE.imp h fun σ H Q ⟨c, ρ, h, G, I, q⟩ => q v H G I (Ext.refl _ _ _) (r _ _)
theorem e_int {i j pos} : DE X W .E (.Constant (.int i) j pos) (pureM (.int i)) := of_c pe_int fun _ _ => .int i
theorem e_bl {b j pos} : DE X W .E (.Constant (.bool b) j pos) (pureM (.bl b)) := of_c pe_bl fun _ _ => .bl b
theorem e_non {j pos} : DE X W .E (.Constant .none j pos) (pureM .non) := of_c pe_non fun _ _ => .non
theorem e_str {x : Str} {j pos} {l : List Nat} (e : x = ⟨l.toArray⟩) : DE X W .E (.Constant (.str x) j pos) (pureM (.str l)) := of_c pe_str fun _ _ => by rw [e]; exact .str l
/-- a module's constant -/
theorem e_glob {x : Str} {v : V} {u : Value} {d : D} {pos : Pos} (hg : Gl X x) (hm : X.mg x = some u) (r : RelV v u) (rd : ∀ ha G, Rp X.K ha G d v) (hd : (x == ("__debug__" : Str)) = false := by decide) : DE X W .E (.Name x pos) (pureM d) := of_c (pe_glob hg hm r hd) rd

/-! ### argument lists -/
def consM (f : EM D) (g : EM (List D)) : EM (List D) := bindM f fun d => bindM g fun ds => pureM (d :: ds)
theorem a_nil : DA X W [] (pureM []) := PA.imp pa_nil fun σ H Q ⟨c, ρ, h, G, I, q⟩ => q [] H G I (Ext.refl _ _ _) .nil
theorem a_cons {e : Expr} {es : List Expr} {f : EM D} {g : EM (List D)} (he : DE X W .E e f) (hr : DA X W es g) (hs : starEach (e :: es) X.env = (false, eval e X.env) :: starEach es X.env := by rfl) : DA X W (e :: es) (consM f g) :=
  PA.imp (pa_cons he hr hs) fun σ H Q ⟨c, ρ, h, G, I, q⟩ => ⟨c, ρ, h, G, I, Pst.bind q bA fun h1 d v H1 G1 I1 E1 r1 q1 => ⟨c, ρ, h1, G1, I1, Pst.bind q1 bA fun h2 ds vs H2 G2 I2 E2 r2 q2 =>
    Pst.pure q2 (v :: vs) H2 G2 I2 (Ext.refl _ _ _) (.cons (Rp.le E2.le r1) r2)⟩⟩
theorem v_nil : DV X W [] (pureM []) := PA.imp pa_nil fun σ H Q ⟨c, ρ, h, G, I, q⟩ => q [] H G I (Ext.refl _ _ _) .nil
theorem v_cons {e : Expr} {es : List Expr} {f : EM D} {g : EM (List D)} (he : DE X W .V e f) (hr : DV X W es g) (hs : starEach (e :: es) X.env = (false, eval e X.env) :: starEach es X.env := by rfl) : DV X W (e :: es) (consM f g) :=
  PA.imp (pa_cons he hr hs) fun σ H Q ⟨c, ρ, h, G, I, q⟩ => ⟨c, ρ, h, G, I, Pst.bind q bV fun h1 d v H1 G1 I1 E1 r1 q1 => ⟨c, ρ, h1, G1, I1, Pst.bind q1 bV fun h2 ds vs H2 G2 I2 E2 r2 q2 =>
    Pst.pure q2 (v :: vs) H2 G2 I2 (Ext.refl _ _ _) (.cons (relV_ext (Hs' := H2) r1 E2) r2)⟩⟩

/-! ### displays -/
def tupM (g : EM (List D)) : EM D := bindM g fun ds => lift (if ds.length ≤ sizeLine then some (.tup ds) else none)
def lstM (g : EM (List D)) : EM D := bindM g fun ds => lift (if ds.length ≤ sizeLine then some (.lst ds) else none)
theorem nt_tup {vs : List V} : nt (.tup vs) := fun _ z => by cases z
theorem nt_lst {vs : List V} : nt (.lst vs) := fun _ z => by cases z
theorem if_some {α : Type} {p : Prop} [Decidable p] {a z : α} (h : (if p then some a else none) = some z) : p ∧ a = z := by
  by_cases hp : p
  · rw [if_pos hp] at h; exact ⟨hp, Option.some.inj h⟩
  · rw [if_neg hp] at h; cases h
theorem e_tup {es : List Expr} {g : EM (List D)} {x1 pos} (h : DA X W es g) : DE X W .E (.Tuple es x1 pos) (tupM g) :=
  PE.imp (pe_tup h) fun σ H Q ⟨c, ρ, h, G, I, q⟩ => ⟨c, ρ, h, G, I, Pst.bind q bE fun h1 ds vs H1 G1 I1 E1 r1 q1 => by
    obtain ⟨z, e, q2⟩ := Pst.lift q1
    obtain ⟨hl, rfl⟩ := if_some e
    refine ⟨by rw [← r1.length]; exact hl, fun p hp => ?_⟩
    have n := New.one (o := .tup vs) I1.sub I1.ntG hp nt_tup
    exact q2 _ _ _ (I1.nw n) n.ext (.tup (.inl (.inl upd_same)) (r1.le n.gg))⟩
theorem e_lst {es : List Expr} {g : EM (List D)} {pos} (h : DA X W es g) : DE X W .L (.List es pos) (lstM g) :=
  PE.imp (pe_lst h) fun σ H Q ⟨c, ρ, h, G, I, q⟩ => ⟨c, ρ, h, G, I, Pst.bind q bE fun h1 ds vs H1 G1 I1 E1 r1 q1 => by
    obtain ⟨z, e, q2⟩ := Pst.lift q1
    obtain ⟨hl, rfl⟩ := if_some e
    refine ⟨by rw [← r1.length]; exact hl, fun p hp => ?_⟩
    have n := New.loose (o := .lst vs) I1.sub I1.ntG hp
    exact q2 _ _ _ (I1.nw n) n.ext ⟨p, vs, ds, rfl, rfl, hp, upd_same, I1.freshG hp, r1⟩⟩

/-! ### operations by values -/
def op2 (p : D → D → Option D) (f g : EM D) : EM D := bindM f fun x => bindM g fun y => lift (p x y)
def opB (p : D → D → Option Bool) (f g : EM D) : EM Bool := bindM f fun x => bindM g fun y => lift (p x y)
def blM (f : EM Bool) : EM D := bindM f fun b => pureM (.bl b)
def OpD (K : PySem.W.Frag) (r : R2) (p : D → D → Option D) : Prop := ∀ (ha : HA) (H G : Hp) (x y z : D) (v w : V) (Q : VK), p x y = some z → Le G H → (∀ a o, G a = some o → nt o) →
  relK .V K ha H H G x v → relK .V K ha H H G y w → (∀ u H' G', New H G H' G' → Rp K ha G' z u → Q u H') → r v w H Q
def OpL (K : PySem.W.Frag) (r : R2) (p : D → D → Option D) : Prop := ∀ (ha : HA) (H G : Hp) (x y z : D) (v w : V) (Q : VK), p x y = some z → Le G H →
  relK .V K ha H H G x v → relK .V K ha H H G y w → (∀ q vs ds, H q = none → z = .lst ds → Rps K ha G ds vs → Q (.ref q) (upd H q (.lst vs))) → r v w H Q
def CmpD (K : PySem.W.Frag) (r : R2) (p : D → D → Option Bool) : Prop := ∀ (ha : HA) (H G : Hp) (x y : D) (b : Bool) (v w : V) (Q : VK), p x y = some b → Le G H →
  relK .V K ha H H G x v → relK .V K ha H H G y w → Q (.bl b) H → r v w H Q
theorem relV_same {K : PySem.W.Frag} {ha : HA} {Hs Hs' H G : Hp} {d : D} {v : V} (r : relK .V K ha Hs H G d v) : relK .V K ha Hs' H G d v := r
section
variable {a b : Expr} {fa fb : EM D} {pos : Pos} {r : R2}
theorem op2_run {p : D → D → Option D} (hp : OpD X.K r p) {σ : L2.St} {H : Hp} {Q : VK} (h : tE X.K X.mg W .E (op2 p fa fb) σ H Q) : tOp r (tE X.K X.mg W .V fa) (tE X.K X.mg W .V fb) σ H Q := by
  obtain ⟨c, ρ, h, G, I, q⟩ := h
  refine ⟨c, ρ, h, G, I, Pst.bind q bE fun h1 x v H1 G1 I1 E1 r1 q1 => ⟨c, ρ, h1, G1, I1, Pst.bind q1 bE fun h2 y w H2 G2 I2 E2 r2 q2 => ?_⟩⟩
  obtain ⟨z, e, q3⟩ := Pst.lift q2
  exact hp c.ha H2 G2 x y z v w Q e I2.sub I2.ntG (relV_ext r1 E2) (relV_same r2) fun u H' G' n ru => q3 u H' G' (I2.nw n) n.ext ru
theorem opL_run {p : D → D → Option D} (hp : OpL X.K r p) {σ : L2.St} {H : Hp} {Q : VK} (h : tE X.K X.mg W .L (op2 p fa fb) σ H Q) : tOp r (tE X.K X.mg W .V fa) (tE X.K X.mg W .V fb) σ H Q := by
  obtain ⟨c, ρ, h, G, I, q⟩ := h
  refine ⟨c, ρ, h, G, I, Pst.bind q bE fun h1 x v H1 G1 I1 E1 r1 q1 => ⟨c, ρ, h1, G1, I1, Pst.bind q1 bE fun h2 y w H2 G2 I2 E2 r2 q2 => ?_⟩⟩
  obtain ⟨z, e, q3⟩ := Pst.lift q2
  refine hp c.ha H2 G2 x y z v w Q e I2.sub (relV_ext r1 E2) (relV_same r2) fun p vs ds hp ez ru => ?_
  subst ez
  have n := New.loose (o := .lst vs) I2.sub I2.ntG hp
  exact q3 _ _ _ (I2.nw n) n.ext ⟨p, vs, ds, rfl, rfl, hp, upd_same, I2.freshG hp, ru⟩
theorem opB_run {p : D → D → Option Bool} (hp : CmpD X.K r p) {σ : L2.St} {H : Hp} {Q : VK} (h : tE X.K X.mg W .E (blM (opB p fa fb)) σ H Q) : tOp r (tE X.K X.mg W .V fa) (tE X.K X.mg W .V fb) σ H Q := by
  obtain ⟨c, ρ, h, G, I, q⟩ := h
  have q' : Pst X.K X.mg W (relK .E X.K) c ρ σ H G Q (bindM fa (fun x => bindM fb fun y => bindM (lift (p x y)) fun b => pureM (.bl b)) ρ h) := by
    have e : blM (opB p fa fb) ρ h = bindM fa (fun x => bindM fb fun y => bindM (lift (p x y)) fun b => pureM (.bl b)) ρ h := by
      unfold blM opB bindM
      cases fa ρ h with
      | ok x h1 =>
        show RE.bind (RE.bind (fb ρ h1) _) _ = RE.bind (fb ρ h1) _
        cases fb ρ h1 <;> rfl
      | err => rfl
      | stuck => rfl
    rw [← e]
    exact q
  refine ⟨c, ρ, h, G, I, Pst.bind q' bE fun h1 x v H1 G1 I1 E1 r1 q1 => ⟨c, ρ, h1, G1, I1, Pst.bind q1 bE fun h2 y w H2 G2 I2 E2 r2 q2 => ?_⟩⟩
  cases e : p x y with
  | none =>
    unfold bindM DL.lift at q2
    rw [e] at q2
    exact False.elim q2
  | some b =>
    unfold bindM DL.lift at q2
    rw [e] at q2
    exact hp c.ha H2 G2 x y b v w Q e I2.sub (relV_ext r1 E2) (relV_same r2) (Pst.pure (α := D) q2 _ H2 G2 I2 (Ext.refl _ _ _) (.bl b))
theorem opT_run {p : D → D → Option Bool} (hp : CmpD X.K r p) {σ : L2.St} {H : Hp} {Q : Bool → Hp → Prop} (h : tT X.K X.mg W (opB p fa fb) σ H Q) : tTest (tOp r (tE X.K X.mg W .V fa) (tE X.K X.mg W .V fb)) σ H Q := by
  obtain ⟨c, ρ, h, G, I, q⟩ := h
  refine ⟨c, ρ, h, G, I, Pst.bind q bT fun h1 x v H1 G1 I1 E1 r1 q1 => ⟨c, ρ, h1, G1, I1, Pst.bind q1 bT fun h2 y w H2 G2 I2 E2 r2 q2 => ?_⟩⟩
  obtain ⟨z, e, q3⟩ := Pst.lift q2
  exact hp c.ha H2 G2 x y z v w _ e I2.sub (relV_ext r1 E2) (relV_same r2) ⟨z, rfl, q3 z H2 G2 I2 (Ext.refl _ _ _) rfl⟩
theorem e_bin {op : Operator} {p : D → D → Option D} (ho : OpR X (binaryOp op) r) (hp : OpD X.K r p) (ha : DE X W .V a fa) (hb : DE X W .V b fb) : DE X W .E (.BinOp a op b pos) (op2 p fa fb) := PE.imp (pe_op ho ha hb) fun _ _ _ => op2_run hp
theorem e_binL {op : Operator} {p : D → D → Option D} (ho : OpR X (binaryOp op) r) (hp : OpL X.K r p) (ha : DE X W .V a fa) (hb : DE X W .V b fb) : DE X W .L (.BinOp a op b pos) (op2 p fa fb) := PE.imp (pe_op ho ha hb) fun _ _ _ => opL_run hp
theorem e_cmp {op : CmpOp} {p : D → D → Option Bool} (ho : OpR X (compareOp op) r) (hp : CmpD X.K r p) (ha : DE X W .V a fa) (hb : DE X W .V b fb) (hm : behindInMarks op b = false) : DE X W .E (.Compare a [op] [b] pos) (blM (opB p fa fb)) := PE.imp (pe_cmpR ho ha hb hm) fun _ _ _ => opB_run hp
theorem t_cmp {op : CmpOp} {p : D → D → Option Bool} (ho : OpR X (compareOp op) r) (hp : CmpD X.K r p) (ha : DE X W .V a fa) (hb : DE X W .V b fb) (hm : behindInMarks op b = false) : DT X W (.Compare a [op] [b] pos) (opB p fa fb) := PT.imp (pt_cmpR ho ha hb hm) fun _ _ _ => opT_run hp
theorem e_ix {p : D → D → Option D} (ho : IxR X r) (hp : OpD X.K r p) (ha : DE X W .V a fa) (hb : DE X W .V b fb) (hs : PlainIx b) : DE X W .E (.Subscript a b pos) (op2 p fa fb) := PE.imp (pe_ix ho ha hb hs) fun _ _ _ => op2_run hp
end
theorem V_E {e : Expr} {f : EM D} (h : DE X W .E e f) : DE X W .V e f := V_of_E h
theorem V_L {e : Expr} {f : EM D} (h : DE X W .L e f) : DE X W .V e f := V_of_L h
theorem E_L {e : Expr} {f : EM D} (h : DE X W .L e f) : DE X W .E e f := E_of_L h
end
end DL

set_option Elab.async false
set_option linter.all false
set_option maxRecDepth 100000
set_option maxHeartbeats 4000000
namespace DL
open PySem PySem.Spec PyProof.Rows L2
section
variable {K : PySem.W.Frag} {ha : HA} {Hs H G : Hp} {d : D} {v : V} {ds : List D}
/-! ### reading a view -/
theorem rv_int {i : Int} (r : relK .V K ha Hs H G (.int i) v) : v = .int i := by
  rcases r with r | ⟨a, vs, ds, n, e, _⟩
  · cases r; rfl
  · cases e
theorem rv_bl {b : Bool} (r : relK .V K ha Hs H G (.bl b) v) : v = .bl b := by
  rcases r with r | ⟨a, vs, ds, n, e, _⟩
  · cases r; rfl
  · cases e
theorem rv_non (r : relK .V K ha Hs H G .non v) : v = .non := by
  rcases r with r | ⟨a, vs, ds, n, e, _⟩
  · cases r; rfl
  · cases e
theorem rv_str {l : List Nat} (r : relK .V K ha Hs H G (.str l) v) : v = .str ⟨l.toArray⟩ := by
  rcases r with r | ⟨a, vs, ds, n, e, _⟩
  · cases r; rfl
  · cases e
theorem rv_tup (r : relK .V K ha Hs H G (.tup ds) v) : ∃ a vs, v = .ref a ∧ SqT K G a vs ∧ Rps K ha G ds vs := by
  rcases r with r | ⟨a, vs, ds, n, e, _⟩
  · cases r with | tup h r => exact ⟨_, _, rfl, h, r⟩
  · cases e
theorem rv_lst (r : relK .V K ha Hs H G (.lst ds) v) (le : Le G H) : ∃ a vs, v = .ref a ∧ H a = some (.lst vs) ∧ Rps K ha G ds vs := by
  rcases r with r | ⟨a, vs, ds', n, e, e1, e2, e3⟩
  · cases r with | lst h r => exact ⟨_, _, rfl, le _ _ h, r⟩
  · cases e; exact ⟨a, vs, e1, e2, e3⟩

/-! ### arithmetic -/
def addD : D → D → Option D
  | .int i, .int j => some (.int (i + j))
  | .str a, .str b => if a.length + b.length ≤ sizeLine then some (.str (a ++ b)) else none
  | .tup xs, .tup ys => if xs.length + ys.length ≤ sizeLine then some (.tup (xs ++ ys)) else none
  | _, _ => none
abbrev rAddD (K : PySem.W.Frag) : R2 := fun x y H Q => (rI0 fun i j => .int (i + j)) x y H Q ∨ (∃ i j, x = .str i ∧ y = .str j ∧ i.length + j.length ≤ sizeLine ∧ Q (.str (i ++ j)) H) ∨ rCatA K x y H Q
theorem op_addD {X : Cx} : OpR X (binaryOp .Add) (rAddD X.K) := op_add.or (op_add_str.or op_catA)
theorem strmk_app (a b : List Nat) : ((⟨a.toArray⟩ : Str) ++ (⟨b.toArray⟩ : Str)) = ⟨(a ++ b).toArray⟩ := by
  show (⟨a.toArray ++ b.toArray⟩ : Str) = _
  rw [List.append_toArray]
theorem add_ok : OpD K (rAddD K) addD := by
  intro ha H G x y z v w Q e le ng rx ry q
  unfold addD at e
  split at e
  · cases e
    rw [rv_int rx, rv_int ry]
    exact .inl ⟨_, _, rfl, rfl, q _ H G (New.refl le ng) (.int _)⟩
  · obtain ⟨hl, rfl⟩ := if_some e
    rw [rv_str rx, rv_str ry]
    refine .inr (.inl ⟨_, _, rfl, rfl, by simpa [Str.length] using hl, ?_⟩)
    rw [strmk_app]
    exact q _ H G (New.refl le ng) (.str _)
  · rename_i xs ys
    obtain ⟨hl, rfl⟩ := if_some e
    obtain ⟨a, vs, rfl, h1, r1⟩ := rv_tup rx
    obtain ⟨b, ws, rfl, h2, r2⟩ := rv_tup ry
    refine .inr (.inr ⟨a, b, vs, ws, rfl, rfl, le.t h1, le.t h2, by rw [← r1.length, ← r2.length]; exact hl, fun z => ?_, fun z1 z => ?_, fun z1 z p hp => ?_⟩)
    · subst z
      cases r1
      exact q _ H G (New.refl le ng) (.tup h2 r2)
    · subst z
      cases r2
      rw [List.append_nil] at q
      exact q _ H G (New.refl le ng) (.tup h1 r1)
    · have n := New.one (o := .tup (vs ++ ws)) le ng hp nt_tup
      exact q _ _ _ n (.tup (.inl (.inl upd_same)) ((r1.append r2).le n.gg))
  · cases e
def subD : D → D → Option D
  | .int i, .int j => some (.int (i - j))
  | _, _ => none
theorem sub_ok : OpD K (rI0 fun i j => .int (i - j)) subD := by
  intro ha H G x y z v w Q e le ng rx ry q
  unfold subD at e
  split at e
  · cases e
    rw [rv_int rx, rv_int ry]
    exact ⟨_, _, rfl, rfl, q _ H G (New.refl le ng) (.int _)⟩
  · cases e
/-- a product of ints, one of them small -/
def mulD : D → D → Option D
  | .int i, .int j => if i.natAbs < 2 ^ 64 ∨ j.natAbs < 2 ^ 64 then some (.int (i * j)) else none
  | _, _ => none
theorem mul_ok : OpD K (rI CMul fun i j => .int (i * j)) mulD := by
  intro ha H G x y z v w Q e le ng rx ry q
  unfold mulD at e
  split at e
  · obtain ⟨hl, rfl⟩ := if_some e
    rw [rv_int rx, rv_int ry]
    refine ⟨_, _, rfl, rfl, ?_, q _ H G (New.refl le ng) (.int _)⟩
    rcases hl with h | h
    · exact .inl (by omega)
    · exact .inr (by omega)
  · cases e
def modD : D → D → Option D
  | .int i, .int j => if 0 < j then some (.int (i % j)) else none
  | _, _ => none
theorem mod_ok : OpD K (rI (fun _ j => 0 < j) fun i j => .int (i % j)) modD := by
  intro ha H G x y z v w Q e le ng rx ry q
  unfold modD at e
  split at e
  · obtain ⟨hl, rfl⟩ := if_some e
    rw [rv_int rx, rv_int ry]
    exact ⟨_, _, rfl, rfl, hl, q _ H G (New.refl le ng) (.int _)⟩
  · cases e
def fdivD : D → D → Option D
  | .int i, .int j => if 0 < j ∧ j < 1073741824 then some (.int (i / j)) else none
  | _, _ => none
theorem fdiv_ok : OpD K (rI CDiv fun i j => .int (i / j)) fdivD := by
  intro ha H G x y z v w Q e le ng rx ry q
  unfold fdivD at e
  split at e
  · obtain ⟨hl, rfl⟩ := if_some e
    rw [rv_int rx, rv_int ry]
    exact ⟨_, _, rfl, rfl, hl, q _ H G (New.refl le ng) (.int _)⟩
  · cases e
/-- xs + ys, xs * n of lists: a new list -/
def catD : D → D → Option D
  | .lst xs, .lst ys => if xs.length + ys.length ≤ sizeLine then some (.lst (xs ++ ys)) else none
  | _, _ => none
/-- as HandS's op_cat, both lists read in any way -/
def rCatD (K : PySem.W.Frag) : R2 := fun x y H Q => ∃ l b xs zs, x = .ref l ∧ y = .ref b ∧ SqL K H l xs ∧ SqL K H b zs ∧ xs.length + zs.length ≤ sizeLine ∧ ∀ p, H p = none → Q (.ref p) (upd H p (.lst (xs ++ zs)))
def repD : D → D → Option D
  | .lst xs, .int k => if -(2 ^ 63) ≤ k ∧ k < 2 ^ 63 ∧ xs.length * k.toNat ≤ sizeLine then some (.lst (List.replicate k.toNat xs).flatten) else none
  | _, _ => none

/-! ### comparisons -/
def scalD : D → D → Bool
  | .non, .non => true | .non, .int _ => true | .int _, .non => true | .non, .bl _ => true | .bl _, .non => true | .non, .str _ => true | .str _, .non => true
  | .int _, .int _ => true | .bl _, .bl _ => true | .str _, .str _ => true
  | .int _, .str _ => true | .str _, .int _ => true | .bl _, .str _ => true | .str _, .bl _ => true
  | _, _ => false
def eqB (x y : D) : Option Bool := if scalD x y = true ∨ (good x = true ∧ good y = true) then some (beq x y) else none
def neB (x y : D) : Option Bool := if scalD x y = true ∨ (good x = true ∧ good y = true) then some (!beq x y) else none
def scV : D → V
  | .bl b => .bl b
  | .int i => .int i
  | .str l => .str ⟨l.toArray⟩
  | _ => .non
def scB : D → Bool
  | .non => true | .bl _ => true | .int _ => true | .str _ => true
  | _ => false
theorem rv_sc {x : D} (s : scB x = true) (rx : relK .V K ha Hs H G x v) : v = scV x := by
  cases x with
  | non => exact rv_non rx
  | bl b => exact rv_bl rx
  | int i => exact rv_int rx
  | str l => exact rv_str rx
  | tup ds => exact absurd s Bool.false_ne_true
  | lst ds => exact absurd s Bool.false_ne_true
  | hnd => exact absurd s Bool.false_ne_true
theorem scal_sc : ∀ x y : D, scalD x y = true → scB x = true ∧ scB y = true ∧ scal (scV x) (scV y) = true ∧ decide (scV x = scV y) = beq x y := by
  intro x y s
  cases x <;> cases y <;> first
    | (exact ⟨rfl, rfl, rfl, by rw [Bool.eq_iff_iff]; simp [scV, beq]⟩)
    | (exact absurd s Bool.false_ne_true)
theorem scal_of {x y : D} {v w : V} (s : scalD x y = true) (rx : relK .V K ha Hs H G x v) (ry : relK .V K ha Hs H G y w) : scal v w = true ∧ decide (v = w) = beq x y := by
  obtain ⟨h1, h2, h3, h4⟩ := scal_sc x y s
  rw [rv_sc h1 rx, rv_sc h2 ry]
  exact ⟨h3, h4⟩
theorem eq_ok : CmpD K (fun x y H Q => rEq x y H Q ∨ rEqD K x y H Q) eqB := by
  intro ha H G x y b v w Q e le rx ry q
  unfold eqB at e
  obtain ⟨h, rfl⟩ := if_some e
  by_cases hs : scalD x y = true
  · obtain ⟨h1, h2⟩ := scal_of hs rx ry
    exact .inl ⟨h1, by rw [h2]; exact q⟩
  · obtain ⟨g1, g2⟩ := h.resolve_left hs
    obtain ⟨s1, f1⟩ := good_shaped g1
    obtain ⟨s2, f2⟩ := good_shaped g2
    exact .inr ⟨_, _, relV_dp rx le f1, relV_dp ry le f2, s1, s2, by rw [eqv_toPy x y f1 f2]; exact q⟩
theorem ne_ok : CmpD K (fun x y H Q => rNe x y H Q ∨ rNeD K x y H Q) neB := by
  intro ha H G x y b v w Q e le rx ry q
  unfold neB at e
  obtain ⟨h, rfl⟩ := if_some e
  by_cases hs : scalD x y = true
  · obtain ⟨h1, h2⟩ := scal_of hs rx ry
    exact .inl ⟨h1, by rw [h2]; exact q⟩
  · obtain ⟨g1, g2⟩ := h.resolve_left hs
    obtain ⟨s1, f1⟩ := good_shaped g1
    obtain ⟨s2, f2⟩ := good_shaped g2
    exact .inr ⟨_, _, relV_dp rx le f1, relV_dp ry le f2, s1, s2, by rw [eqv_toPy x y f1 f2]; exact q⟩
theorem op_eqA {X : Cx} (hu : X.A.units + 64 < cLine) : OpR X (compareOp .Eq) (fun x y H Q => rEq x y H Q ∨ rEqD X.K x y H Q) := op_eq.or (op_eqD hu)
theorem op_neA {X : Cx} (hu : X.A.units + 64 < cLine) : OpR X (compareOp .NotEq) (fun x y H Q => rNe x y H Q ∨ rNeD X.K x y H Q) := op_ne.or (op_neD hu)
def ltB : D → D → Option Bool
  | .int i, .int j => some (decide (i < j))
  | _, _ => none
def leB : D → D → Option Bool
  | .int i, .int j => some (decide (i ≤ j))
  | _, _ => none
def gtB : D → D → Option Bool
  | .int i, .int j => some (decide (j < i))
  | _, _ => none
def geB : D → D → Option Bool
  | .int i, .int j => some (decide (j ≤ i))
  | _, _ => none
theorem cmpI_ok {g : Int → Int → Bool} {p : D → D → Option Bool} (hp : ∀ x y b, p x y = some b → ∃ i j, x = .int i ∧ y = .int j ∧ b = g i j) : CmpD K (rI0 fun i j => .bl (g i j)) p := by
  intro ha H G x y b v w Q e le rx ry q
  obtain ⟨i, j, rfl, rfl, rfl⟩ := hp x y b e
  rw [rv_int rx, rv_int ry]
  exact ⟨_, _, rfl, rfl, q⟩
theorem lt_ok : CmpD K (rI0 fun i j => .bl (decide (i < j))) ltB := cmpI_ok fun x y b e => by
  unfold ltB at e
  split at e
  · cases e; exact ⟨_, _, rfl, rfl, rfl⟩
  · cases e
theorem le_ok : CmpD K (rI0 fun i j => .bl (decide (i ≤ j))) leB := cmpI_ok fun x y b e => by
  unfold leB at e
  split at e
  · cases e; exact ⟨_, _, rfl, rfl, rfl⟩
  · cases e
theorem gt_ok : CmpD K (rI0 fun i j => .bl (decide (j < i))) gtB := cmpI_ok fun x y b e => by
  unfold gtB at e
  split at e
  · cases e; exact ⟨_, _, rfl, rfl, rfl⟩
  · cases e
theorem ge_ok : CmpD K (rI0 fun i j => .bl (decide (j ≤ i))) geB := cmpI_ok fun x y b e => by
  unfold geB at e
  split at e
  · cases e; exact ⟨_, _, rfl, rfl, rfl⟩
  · cases e
def isD : D → D → Option Bool
  | .non, .non => some true
  | .bl _, .non => some false
  | .int _, .non => some false
  | .str _, .non => some false
  | .tup _, .non => some false
  | .lst _, .non => some false
  | .bl a, .bl b => some (decide (a = b))
  | _, _ => none
def isntD (x y : D) : Option Bool := (isD x y).map (!·)
abbrev rIs : R2 := fun x y H Q => (y = .non ∧ Q (.bl (decide (x = .non))) H) ∨ rIsB x y H Q
abbrev rIsnt : R2 := fun x y H Q => (y = .non ∧ Q (.bl (!decide (x = .non))) H) ∨ rNotB x y H Q
theorem is_ok : CmpD K rIs isD := by
  intro ha H G x y b v w Q e le rx ry q
  unfold isD at e
  split at e
  all_goals first | cases e | skip
  · rw [rv_non rx, rv_non ry]; exact .inl ⟨rfl, q⟩
  · rw [rv_bl rx, rv_non ry]; exact .inl ⟨rfl, q⟩
  · rw [rv_int rx, rv_non ry]; exact .inl ⟨rfl, q⟩
  · rw [rv_str rx, rv_non ry]; exact .inl ⟨rfl, q⟩
  · obtain ⟨a, vs, rfl, _⟩ := rv_tup rx; rw [rv_non ry]; exact .inl ⟨rfl, q⟩
  · obtain ⟨a, vs, rfl, _⟩ := rv_lst rx le; rw [rv_non ry]; exact .inl ⟨rfl, q⟩
  · rw [rv_bl rx, rv_bl ry]; exact .inr ⟨_, _, rfl, rfl, q⟩
theorem isnt_ok : CmpD K rIsnt isntD := by
  intro ha H G x y b v w Q e le rx ry q
  unfold isntD isD at e
  split at e
  all_goals first | cases e | skip
  · rw [rv_non rx, rv_non ry]; exact .inl ⟨rfl, q⟩
  · rw [rv_bl rx, rv_non ry]; exact .inl ⟨rfl, q⟩
  · rw [rv_int rx, rv_non ry]; exact .inl ⟨rfl, q⟩
  · rw [rv_str rx, rv_non ry]; exact .inl ⟨rfl, q⟩
  · obtain ⟨a, vs, rfl, _⟩ := rv_tup rx; rw [rv_non ry]; exact .inl ⟨rfl, q⟩
  · obtain ⟨a, vs, rfl, _⟩ := rv_lst rx le; rw [rv_non ry]; exact .inl ⟨rfl, q⟩
  · rw [rv_bl rx, rv_bl ry]; exact .inr ⟨_, _, rfl, rfl, q⟩
theorem op_is {X : Cx} : OpR X (compareOp .Is) rIs := op_isN.or op_isBl
theorem op_isnt {X : Cx} : OpR X (compareOp .IsNot) rIsnt := op_notN.or op_notBl
/-- in a text (one sign), in a list or tuple of flat data -/
def flatD : D → Bool
  | .non => true | .bl _ => true | .int _ => true | .str _ => true
  | _ => false
def inB : D → D → Option Bool
  | .str [c], .str l => some (decide (c ∈ l))
  | x, .tup ds => if flatD x = true ∧ ds.all flatD = true then some (ds.any fun d => beq d x) else none
  | x, .lst ds => if flatD x = true ∧ ds.all flatD = true then some (ds.any fun d => beq d x) else none
  | _, _ => none
def notinB (x y : D) : Option Bool := (inB x y).map (!·)
theorem flat_rp {d : D} {v : V} (f : flatD d = true) (r : Rp K ha G d v) : flatV v = true := by
  cases r <;> first | rfl | (exact absurd f (by simp [flatD]))
theorem flat_sc : ∀ d x : D, flatD d = true → flatD x = true → scB d = true ∧ scB x = true ∧ eqV (scV d) (scV x) = beq d x := by
  intro d x f g
  cases d <;> cases x <;> first
    | (exact ⟨rfl, rfl, rfl⟩)
    | (exact ⟨rfl, rfl, by rw [Bool.eq_iff_iff]; simp [scV, beq, eqV]⟩)
    | (exact absurd f Bool.false_ne_true)
    | (exact absurd g Bool.false_ne_true)
theorem flat_eq {d x : D} {v w : V} (f : flatD d = true) (g : flatD x = true) (r : Rp K ha G d v) (q : Rp K ha G x w) : eqV v w = beq d x := by
  obtain ⟨h1, h2, h3⟩ := flat_sc d x f g
  rw [rv_sc (Hs := G) (H := G) h1 (.inl r), rv_sc (Hs := G) (H := G) h2 (.inl q)]
  exact h3
theorem flat_all {ds : List D} {vs : List V} (f : ds.all flatD = true) (r : Rps K ha G ds vs) : vs.all flatV = true := by
  induction ds generalizing vs with
  | nil => cases r; rfl
  | cons d ds ih =>
    cases r with
    | cons h r =>
      rw [List.all_cons, Bool.and_eq_true] at f ⊢
      exact ⟨flat_rp f.1 h, ih f.2 r⟩
theorem flat_any {x : D} {w : V} {ds : List D} {vs : List V} (g : flatD x = true) (q : Rp K ha G x w) (f : ds.all flatD = true) (r : Rps K ha G ds vs) : inV w vs = ds.any fun d => beq d x := by
  unfold inV
  induction ds generalizing vs with
  | nil => cases r; rfl
  | cons d ds ih =>
    cases r with
    | cons h r =>
      rw [List.all_cons, Bool.and_eq_true] at f
      rw [List.any_cons, List.any_cons, flat_eq f.1 g h q, ih f.2 r]
theorem rp_of_flat {d : D} {v : V} (f : flatD d = true) (r : relK .V K ha Hs H G d v) : Rp K ha G d v := by
  rcases r with r | ⟨a, vs, ds, n, rfl, _⟩
  · exact r
  · exact absurd f (by simp [flatD])
abbrev rInD (K : PySem.W.Frag) : R2 := fun x y H Q => (∃ (c : Nat) (z : Str), x = .str ⟨#[c]⟩ ∧ y = .str z ∧ Q (.bl (decide (c ∈ z.cps.toList))) H) ∨ rIn K false x y H Q
abbrev rNinD (K : PySem.W.Frag) : R2 := fun x y H Q => (∃ (c : Nat) (z : Str), x = .str ⟨#[c]⟩ ∧ y = .str z ∧ Q (.bl (!decide (c ∈ z.cps.toList))) H) ∨ rIn K true x y H Q
theorem in_ok : CmpD K (rInD K) inB := by
  intro ha H G x y b v w Q e le rx ry q
  unfold inB at e
  split at e
  · cases e
    rw [rv_str rx, rv_str ry]
    exact .inl ⟨_, _, rfl, rfl, by simpa using q⟩
  · obtain ⟨⟨f1, f2⟩, rfl⟩ := if_some e
    obtain ⟨a, vs, rfl, h, r⟩ := rv_tup ry
    have rx' := rp_of_flat f1 rx
    exact .inr ⟨a, vs, rfl, .inr (le.t h), flat_rp f1 rx', flat_all f2 r, by rw [← flat_any f1 rx' f2 r] at q; exact q⟩
  · obtain ⟨⟨f1, f2⟩, rfl⟩ := if_some e
    obtain ⟨a, vs, rfl, h, r⟩ := rv_lst ry le
    have rx' := rp_of_flat f1 rx
    exact .inr ⟨a, vs, rfl, .inl (.of h), flat_rp f1 rx', flat_all f2 r, by rw [← flat_any f1 rx' f2 r] at q; exact q⟩
  · cases e
theorem notin_ok : CmpD K (rNinD K) notinB := by
  intro ha H G x y b v w Q e le rx ry q
  unfold notinB inB at e
  split at e
  · cases e
    rw [rv_str rx, rv_str ry]
    exact .inl ⟨_, _, rfl, rfl, by simpa using q⟩
  · cases hb : (if flatD x = true ∧ List.all _ flatD = true then some _ else none : Option Bool) with
    | none => rw [hb] at e; cases e
    | some b' =>
      rw [hb] at e
      cases e
      obtain ⟨⟨f1, f2⟩, rfl⟩ := if_some hb
      obtain ⟨a, vs, rfl, h, r⟩ := rv_tup ry
      have rx' := rp_of_flat f1 rx
      exact .inr ⟨a, vs, rfl, .inr (le.t h), flat_rp f1 rx', flat_all f2 r, by rw [← flat_any f1 rx' f2 r] at q; exact q⟩
  · cases hb : (if flatD x = true ∧ List.all _ flatD = true then some _ else none : Option Bool) with
    | none => rw [hb] at e; cases e
    | some b' =>
      rw [hb] at e
      cases e
      obtain ⟨⟨f1, f2⟩, rfl⟩ := if_some hb
      obtain ⟨a, vs, rfl, h, r⟩ := rv_lst ry le
      have rx' := rp_of_flat f1 rx
      exact .inr ⟨a, vs, rfl, .inl (.of h), flat_rp f1 rx', flat_all f2 r, by rw [← flat_any f1 rx' f2 r] at q; exact q⟩
  · cases e
theorem op_inA {X : Cx} : OpR X (compareOp .In) (rInD X.K) := op_in_sign.or op_in_seq
theorem op_ninA {X : Cx} : OpR X (compareOp .NotIn) (rNinD X.K) := op_notIn_sign.or op_notIn_seq

/-! ### subscripts -/
def ixD : D → D → Option D
  | .tup ds, .int i => atI ds i
  | .lst ds, .int i => atI ds i
  | .str l, .int i => if l.length ≤ sizeLine then (atI l i).map fun c => .str [c] else none
  | _, _ => none
theorem atI_rps {ds : List D} {vs : List V} {i : Int} {d : D} (r : Rps K ha G ds vs) (e : atI ds i = some d) : ∃ v, atI vs i = some v ∧ Rp K ha G d v := by
  unfold atI at e ⊢
  rw [← r.length]
  cases h : ixN ds.length i with
  | none => rw [h] at e; cases e
  | some j =>
    rw [h] at e
    exact r.get (show ds[j]? = some d from e)
theorem ix_ok : OpD K (rIx K) ixD := by
  intro ha H G x y z v w Q e le ng rx ry q
  unfold ixD at e
  split at e
  · obtain ⟨a, vs, rfl, h, r⟩ := rv_tup rx
    rw [rv_int ry]
    obtain ⟨u, e1, e2⟩ := atI_rps r e
    exact .inr (.inl ⟨a, vs, _, u, rfl, rfl, le.t h, e1, q _ H G (New.refl le ng) e2⟩)
  · obtain ⟨a, vs, rfl, h, r⟩ := rv_lst rx le
    rw [rv_int ry]
    obtain ⟨u, e1, e2⟩ := atI_rps r e
    exact .inl ⟨a, vs, _, u, rfl, rfl, .of h, e1, q _ H G (New.refl le ng) e2⟩
  · rename_i l i
    by_cases hl : l.length ≤ sizeLine
    · rw [if_pos hl] at e
      cases h : atI l i with
      | none => rw [h] at e; cases e
      | some c =>
        rw [h] at e
        cases e
        rw [rv_str rx, rv_int ry]
        exact .inr (.inr ⟨_, _, c, rfl, rfl, by simpa [Str.length] using hl, by simpa using h, q _ H G (New.refl le ng) (.str [c])⟩)
    · rw [if_neg hl] at e; cases e
  · cases e
end
end DL

set_option Elab.async false
set_option linter.all false
set_option maxRecDepth 100000
set_option maxHeartbeats 4000000
namespace DL
open PySem PySem.Spec PyProof.Rows L2

/-! ### statements as functions -/
inductive Fl where
  | next | brk | cont | ret (d : D)
inductive RS where
  | ok (fl : Fl) (ρ : En) (h : Hand) | err (x : Str) (ρ : En) (h : Hand) | stuck
abbrev SM := En → Hand → RS
def RunS (r : RS) (k : Fl → En → Hand → Prop) (e : Str → En → Hand → Prop) : Prop := match r with
  | .ok fl ρ h => k fl ρ h
  | .err x ρ h => e x ρ h
  | .stuck => False
theorem RunS.mono {r : RS} {k k' : Fl → En → Hand → Prop} {e e' : Str → En → Hand → Prop} (h : RunS r k e) (hk : ∀ a ρ h, k a ρ h → k' a ρ h) (he : ∀ x ρ h, e x ρ h → e' x ρ h) : RunS r k' e' := by
  cases r with
  | ok a ρ h' => exact hk _ _ _ h
  | err x ρ h' => exact he _ _ _ h
  | stuck => exact h
section
variable (K : PySem.W.Frag) (mg : Str → Option Value) (W : WXd)
def erS (c : C) : Str → En → Hand → Prop := fun x ρ' h' => ∀ σ' H' G' Cx, SI K c ρ' h' σ' H' G' → mg x = some (.ref Cx) → W (.ref Cx) none σ' H'
def endS (c : C) (D : Ends) : Fl → En → Hand → Prop := fun fl ρ' h' => ∀ σ' H' G', SI K c ρ' h' σ' H' G' → match fl with
  | .next => D.nx σ' H'
  | .brk => D.bk σ' H'
  | .cont => D.ct σ' H'
  | .ret d => ∀ v, Rp K c.ha G' d v → D.rt v H'
def PstS (c : C) (D : Ends) (r : RS) : Prop := RunS r (endS K c D) (erS K mg W c)
def tS (f : SM) : TS := fun D σ H => ∃ c ρ h G, SI K c ρ h σ H G ∧ PstS K mg W c D (f ρ h)
end
abbrev DS (X : Cx) (W : WXd) (st : Stmt) (f : SM) : Prop := PS X st (tS X.K X.mg W f)
abbrev DSs (X : Cx) (W : WXd) (st : List Stmt) (f : SM) : Prop := PSs X st (tS X.K X.mg W f)

def skipS : SM := fun ρ h => .ok .next ρ h
def RS.seq (r : RS) (g : SM) : RS := match r with
  | .ok .next ρ h => g ρ h
  | r => r
def seqS (f g : SM) : SM := fun ρ h => (f ρ h).seq g
/-- an expression's value, then a statement's end -/
def RE.to {α : Type} (r : RE α) (ρ : En) (k : α → Hand → RS) : RS := match r with
  | .ok a h => k a h
  | .err x h => .err x ρ h
  | .stuck => .stuck
def setS (i : Nat) (f : EM D) : SM := fun ρ h => (f ρ h).to ρ fun d h' => .ok .next (ρ.set i (some (.val d))) h'
def setLS (i : Nat) (f : EM D) : SM := fun ρ h => (f ρ h).to ρ fun d h' => match d with
  | .lst ds => .ok .next (ρ.set i (some (.own ds))) h'
  | _ => .stuck
def retS (f : EM D) : SM := fun ρ h => (f ρ h).to ρ fun d h' => .ok (.ret d) ρ h'
def dropS (f : EM D) : SM := fun ρ h => (f ρ h).to ρ fun _ h' => .ok .next ρ h'
def ifS (c : EM Bool) (f g : SM) : SM := fun ρ h => (c ρ h).to ρ fun b h' => if b = true then f ρ h' else g ρ h'
/-- a list that may change stands still from now on -/
def frzE (i : Nat) (ρ : En) : En := match ρ[i]? with
  | some (some (.own ds)) => ρ.set i (some (.val (.lst ds)))
  | _ => ρ
def frzS (i : Nat) (f : SM) : SM := fun ρ h => f (frzE i ρ) h

section
variable {K : PySem.W.Frag} {mg : Str → Option Value} {W : WXd} {c : C} {ρ : En} {h : Hand} {σ : L2.St} {H G : Hp}
theorem getElem?_set_cases {α : Type} {l : List α} {i j : Nat} {x y : α} (h : (l.set i x)[j]? = some y) : (i = j ∧ y = x) ∨ (i ≠ j ∧ l[j]? = some y) := by
  by_cases e : i = j
  · subst e
    by_cases hl : i < l.length
    · rw [List.getElem?_set_self hl] at h
      exact .inl ⟨rfl, (Option.some.inj h).symm⟩
    · rw [List.getElem?_eq_none (by simpa using hl)] at h
      cases h
  · rw [List.getElem?_set_ne e] at h
    exact .inr ⟨e, h⟩
theorem SI.setVal (I : SI K c ρ h σ H G) (i : Nat) {d : D} {v : V} (r : Rp K c.ha G d v) : SI K c (ρ.set i (some (.val d))) h (σ.set i (some v)) H G := by
  refine ⟨I.sub, I.ntG, I.g0, I.h0, I.d0, I.new, I.hnd, I.hag, I.h0a, by rw [List.length_set, List.length_set]; exact I.len, fun j e q => ?_, fun j ds q => ?_, fun j k dj dk a q1 q2 q3 q4 => ?_, I.tab⟩
  · rcases getElem?_set_cases q with ⟨rfl, e1⟩ | ⟨n, q⟩
    · cases e1
      have hl : i < ρ.length := by
        by_cases hl : i < ρ.length
        · exact hl
        · rw [List.getElem?_eq_none (by simpa using hl)] at q; cases q
      exact ⟨v, List.getElem?_set_self (by rw [← I.len]; exact hl), r⟩
    · obtain ⟨w, e1, e2⟩ := I.val j e q
      exact ⟨w, by rw [List.getElem?_set_ne n]; exact e1, e2⟩
  · rcases getElem?_set_cases q with ⟨rfl, e1⟩ | ⟨n, q⟩
    · cases e1
    · obtain ⟨a, vs, e1, e2⟩ := I.own j ds q
      exact ⟨a, vs, by rw [List.getElem?_set_ne n]; exact e1, e2⟩
  · rcases getElem?_set_cases q1 with ⟨rfl, e1⟩ | ⟨n1, q1⟩
    · cases e1
    · rcases getElem?_set_cases q2 with ⟨rfl, e1⟩ | ⟨n2, q2⟩
      · cases e1
      · rw [List.getElem?_set_ne n1] at q3
        rw [List.getElem?_set_ne n2] at q4
        exact I.apart j k dj dk a q1 q2 q3 q4
/-- p is none of the lists that the slots own -/
def Unowned (ρ : En) (σ : L2.St) (p : Addr) : Prop := ∀ (j : Nat) (ds : List D), ρ[j]? = some (some (Sl.own ds)) → σ[j]? ≠ some (some (V.ref p))
theorem SI.unowned (I : SI K c ρ h σ H G) {p : Addr} (hp : H p = none) : Unowned ρ σ p := fun j ds q e => by
  obtain ⟨a, vs, e1, e2, _⟩ := I.own j ds q
  rw [e] at e1
  cases e1
  rw [hp] at e2
  cases e2
theorem SI.setOwn (I : SI K c ρ h σ H G) (i : Nat) {p : Addr} {vs : List V} {ds : List D} (hu : Unowned ρ σ p) (hp : H p = some (.lst vs)) (hG : G p = none) (h0 : c.H0 p = none) (r : Rps K c.ha G ds vs) : SI K c (ρ.set i (some (.own ds))) h (σ.set i (some (.ref p))) H G := by
  refine ⟨I.sub, I.ntG, I.g0, I.h0, I.d0, I.new, I.hnd, I.hag, I.h0a, by rw [List.length_set, List.length_set]; exact I.len, fun j e q => ?_, fun j es q => ?_, fun j k dj dk a q1 q2 q3 q4 => ?_, I.tab⟩
  · rcases getElem?_set_cases q with ⟨rfl, e1⟩ | ⟨n, q⟩
    · cases e1
    · obtain ⟨w, e1, e2⟩ := I.val j e q
      exact ⟨w, by rw [List.getElem?_set_ne n]; exact e1, e2⟩
  · rcases getElem?_set_cases q with ⟨rfl, e1⟩ | ⟨n, q⟩
    · cases e1
      have hl : i < ρ.length := by
        by_cases hl : i < ρ.length
        · exact hl
        · rw [List.getElem?_eq_none (by simpa using hl)] at q; cases q
      exact ⟨p, vs, List.getElem?_set_self (by rw [← I.len]; exact hl), hp, hG, h0, r⟩
    · obtain ⟨a, vs, e1, e2⟩ := I.own j es q
      exact ⟨a, vs, by rw [List.getElem?_set_ne n]; exact e1, e2⟩
  · rcases getElem?_set_cases q1 with ⟨rfl, e1⟩ | ⟨n1, q1⟩
    · rcases getElem?_set_cases q2 with ⟨rfl, e2⟩ | ⟨n2, q2⟩
      · rfl
      · rcases getElem?_set_cases q3 with ⟨_, e3⟩ | ⟨n3, _⟩
        · cases e3
          rw [List.getElem?_set_ne n2] at q4
          exact absurd q4 (hu k dk q2)
        · exact absurd rfl n3
    · rcases getElem?_set_cases q2 with ⟨rfl, e2⟩ | ⟨n2, q2⟩
      · rcases getElem?_set_cases q4 with ⟨_, e3⟩ | ⟨n3, _⟩
        · cases e3
          rw [List.getElem?_set_ne n1] at q3
          exact absurd q3 (hu j dj q1)
        · exact absurd rfl n3
      · rw [List.getElem?_set_ne n1] at q3
        rw [List.getElem?_set_ne n2] at q4
        exact I.apart j k dj dk a q1 q2 q3 q4
/-- an owned list is frozen -/
theorem SI.frz (I : SI K c ρ h σ H G) (i : Nat) : ∃ G', Le G G' ∧ SI K c (frzE i ρ) h σ H G' := by
  unfold frzE
  split
  · rename_i ds e
    obtain ⟨p, vs, e1, e2, e3, e4, e5⟩ := I.own i ds e
    have ne : ∀ a, a ≠ p → upd G p (.lst vs) a = G a := fun a n => upd_ne n
    have le : Le G (upd G p (.lst vs)) := fun a o z => by rw [ne a (ne_of_none z e3)]; exact z
    have hl : i < ρ.length := (List.getElem?_eq_some_iff.mp e).1
    refine ⟨upd G p (.lst vs), le, fun a o z => ?_, fun a o z => ?_, I.g0.trans le, I.h0, I.d0, fun a z => ?_, ?_, ?_, I.h0a, by rw [List.length_set]; exact I.len, fun j d q => ?_, fun j es q => ?_, fun j k dj dk a q1 q2 q3 q4 => ?_, I.tab⟩
    · by_cases n : a = p
      · subst n; rw [upd_same] at z; cases z; exact e2
      · rw [ne a n] at z; exact I.sub a o z
    · by_cases n : a = p
      · subst n; rw [upd_same] at z; cases z; exact nt_lst
      · rw [ne a n] at z; exact I.ntG a o z
    · by_cases n : a = p
      · subst n; exact .inr e4
      · rw [ne a n] at z; exact I.new a z
    · obtain ⟨ca, z1, z2⟩ := I.hnd
      exact ⟨ca, z1, le _ _ z2⟩
    · rw [ne _ fun z => I.h0a (by rw [z]; exact e4)]; exact I.hag
    · rcases getElem?_set_cases q with ⟨rfl, e1'⟩ | ⟨n, q⟩
      · cases e1'
        exact ⟨.ref p, e1, .lst upd_same (e5.le le)⟩
      · obtain ⟨w, y1, y2⟩ := I.val j d q
        exact ⟨w, y1, y2.le le⟩
    · rcases getElem?_set_cases q with ⟨rfl, e1'⟩ | ⟨n, q⟩
      · cases e1'
      · obtain ⟨a, ws, y1, y2, y3, y4, y5⟩ := I.own j es q
        refine ⟨a, ws, y1, y2, ?_, y4, y5.le le⟩
        rw [ne a fun z => ?_]
        · exact y3
        · rw [z] at y1
          exact n (I.apart i j ds es p e q e1 y1)
    · rcases getElem?_set_cases q1 with ⟨rfl, e1'⟩ | ⟨n1, q1⟩
      · cases e1'
      · rcases getElem?_set_cases q2 with ⟨rfl, e1'⟩ | ⟨n2, q2⟩
        · cases e1'
        · exact I.apart j k dj dk a q1 q2 q3 q4
  · exact ⟨G, Le.refl G, I⟩
/-- the state that a call leaves -/
structure Entry (K : PySem.W.Frag) (ha : HA) (h : Hand) (H G : Hp) : Prop where
  sub : ∀ a o, G a = some o → H a = some o
  ntG : ∀ a o, G a = some o → nt o
  hnd : HandAt K H G ha h
  hag : G ha = none
  tab : LamX.Tabs h.T H
theorem SI.entry (I : SI K c ρ h σ H G) : Entry K c.ha h H G := ⟨I.sub, I.ntG, I.hnd, I.hag, I.tab⟩
theorem SI.ext (I : SI K c ρ h σ H G) : Ext c.ha c.H0 c.G0 H G := ⟨I.h0, I.d0, I.g0, I.new⟩
theorem SI.call {h' : Hand} {H' G' : Hp} (I : SI K c ρ h σ H G) (x : Ext c.ha H G H' G') (e : Entry K c.ha h' H' G') : SI K c ρ h' σ H' G' := by
  have ex := I.ext.trans x
  refine ⟨e.sub, e.ntG, ex.le, ex.keep, ex.dom, ex.new, e.hnd, e.hag, I.h0a, I.len, fun i d q => ?_, fun i ds q => ?_, I.apart, e.tab⟩
  · obtain ⟨v, e1, e2⟩ := I.val i d q
    exact ⟨v, e1, e2.le x.le⟩
  · obtain ⟨a, vs, e1, e2, e3, e4, e5⟩ := I.own i ds q
    refine ⟨a, vs, e1, x.keep a _ (fun z => I.h0a (by rw [← z]; exact e4)) nt_lst e2, ?_, e4, e5.le x.le⟩
    cases y : G' a with
    | none => rfl
    | some o =>
      rcases x.new a (by rw [y]; simp) with z | z
      · exact absurd e3 z
      · rw [e2] at z; cases z
end

section
variable {X : Cx} {W : WXd}
theorem ss_nil : DSs X W [] skipS := PSs.imp pss_nil fun D σ H ⟨c, ρ, h, G, I, q⟩ => q σ H G I
theorem ss_cons {st : Stmt} {rest : List Stmt} {f g : SM} (h1 : DS X W st f) (h2 : DSs X W rest g) : DSs X W (st :: rest) (seqS f g) := PSs.imp (pss_cons h1 h2) fun D σ H ⟨c, ρ, h, G, I, q⟩ => ⟨c, ρ, h, G, I, by
  unfold seqS at q
  cases e : f ρ h with
  | stuck => rw [e] at q; exact q
  | err x ρ' h' => rw [e] at q; exact q
  | ok fl ρ' h' =>
    rw [e] at q
    cases fl with
    | next => exact fun σ' H' G' I' => ⟨c, ρ', h', G', I', q⟩
    | brk => exact q
    | cont => exact q
    | ret d => exact q⟩
theorem ss_one {st : Stmt} {f : SM} (h1 : DS X W st f) : DSs X W [st] f := pss_one h1
theorem s_frz {st : Stmt} {f : SM} (i : Nat) (h : DS X W st f) : DS X W st (frzS i f) := PS.imp h fun D σ H ⟨c, ρ, h, G, I, q⟩ => by
  obtain ⟨G', _, I'⟩ := I.frz i
  exact ⟨c, _, h, G', I', q⟩
theorem s_pass {pos : Pos} : DS X W (.Pass pos) skipS := PS.imp ps_pass fun D σ H ⟨c, ρ, h, G, I, q⟩ => q σ H G I
def brkS : SM := fun ρ h => .ok .brk ρ h
def contS : SM := fun ρ h => .ok .cont ρ h
theorem s_break {pos : Pos} : DS X W (.Break pos) brkS := PS.imp ps_break fun D σ H ⟨c, ρ, h, G, I, q⟩ => q σ H G I
theorem s_continue {pos : Pos} : DS X W (.Continue pos) contS := PS.imp ps_continue fun D σ H ⟨c, ρ, h, G, I, q⟩ => q σ H G I
/-- from a statement's wish to its expression's -/
theorem Pst.of {α β : Type} {K : PySem.W.Frag} {mg : Str → Option Value} {rel : HA → Hp → Hp → Hp → α → β → Prop} {c : C} {ρ : En} {h : Hand} {σ : L2.St} {H G : Hp} {D : Ends} {f : EM α} {k : α → Hand → RS} {Q : β → Hp → Prop}
    (q : PstS K mg W c D ((f ρ h).to ρ k)) (hk : ∀ d h' v H' G', PstS K mg W c D (k d h') → SI K c ρ h' σ H' G' → Ext c.ha H G H' G' → rel c.ha H H' G' d v → Q v H') : Pst K mg W rel c ρ σ H G Q (f ρ h) := by
  unfold Pst
  cases e : f ρ h with
  | stuck => rw [e] at q; exact q
  | err x h' => rw [e] at q; exact fun H' G' Cx I' _ hm => q σ H' G' Cx I' hm
  | ok d h' => rw [e] at q; exact fun v H' G' I' E' r' => hk d h' v H' G' q I' E' r'
theorem s_expr {e : Expr} {f : EM D} {pos : Pos} (he : DE X W .E e f) (hs : swapsWith e none pos.line X.env = pure false := by rfl) : DS X W (.Expr e pos) (dropS f) :=
  PS.imp (ps_expr he hs) fun D σ H ⟨c, ρ, h, G, I, q⟩ => ⟨c, ρ, h, G, I, Pst.of q fun d h' v H' G' q I' E' r' => q σ H' G' I'⟩
theorem s_ret {e : Expr} {f : EM D} {pos : Pos} (he : DE X W .E e f) : DS X W (.Return (some e) pos) (retS f) :=
  PS.imp (ps_ret he) fun D σ H ⟨c, ρ, h, G, I, q⟩ => ⟨c, ρ, h, G, I, Pst.of q fun d h' v H' G' q I' E' r' => q σ H' G' I' v r'⟩
theorem s_retN {pos : Pos} : DS X W (.Return none pos) (retS (pureM .non)) := PS.imp ps_retN fun D σ H ⟨c, ρ, h, G, I, q⟩ => q σ H G I .non .non
theorem s_set {i : Nat} {x : Str} {e : Expr} {f : EM D} {pos pos' : Pos} (hN : X.N.Nodup) (hi : X.N[i]? = some x) (hx : Loc X.env.scope x) (he : DE X W .E e f) (hs : swapsWith e (some (.Name x pos')) pos.line X.env = pure false := by rfl)
    (hf : X.fn x = true ∨ X.env.scope.names.lookup x = some .local := by first | exact .inl rfl | exact .inr rfl | assumption) : DS X W (.Assign [.Name x pos'] e pos) (setS i f) :=
  PS.imp (ps_set hN hi hx he hs hf) fun D σ H ⟨c, ρ, h, G, I, q⟩ => ⟨c, ρ, h, G, I, Pst.of q fun d h' v H' G' q I' E' r' => q _ H' G' (I'.setVal i r')⟩
theorem own_of_L {K : PySem.W.Frag} {c : C} {ρ : En} {h0 h' : Hand} {σ : L2.St} {H G H' G' : Hp} {d : D} {v : V} (I : SI K c ρ h0 σ H G) (I' : SI K c ρ h' σ H' G') (r : relK .L K c.ha H H' G' d v) (i : Nat) :
    ∃ ds, d = .lst ds ∧ SI K c (ρ.set i (some (.own ds))) h' (σ.set i (some v)) H' G' := by
  obtain ⟨p, vs, ds, rfl, rfl, e3, e4, e5, e6⟩ := r
  exact ⟨ds, rfl, I'.setOwn i (I.unowned e3) e4 e5 (I.fresh0 e3) e6⟩
theorem s_setL {i : Nat} {x : Str} {e : Expr} {f : EM D} {pos pos' : Pos} (hN : X.N.Nodup) (hi : X.N[i]? = some x) (hx : Loc X.env.scope x) (he : DE X W .L e f) (hs : swapsWith e (some (.Name x pos')) pos.line X.env = pure false := by rfl)
    (hf : X.fn x = true ∨ X.env.scope.names.lookup x = some .local := by first | exact .inl rfl | exact .inr rfl | assumption) : DS X W (.Assign [.Name x pos'] e pos) (setLS i f) :=
  PS.imp (ps_set hN hi hx he hs hf) fun D σ H ⟨c, ρ, h, G, I, q⟩ => ⟨c, ρ, h, G, I, Pst.of q fun d h' v H' G' q I' E' r' => by
    obtain ⟨ds, rfl, I2⟩ := own_of_L I I' r' i
    exact q _ H' G' I2⟩
theorem s_if {c : Expr} {a b : List Stmt} {fc : EM Bool} {f g : SM} {pos : Pos} (hc : DT X W c fc) (ha : DSs X W a f) (hb : DSs X W b g) : DS X W (.If c a b pos) (ifS fc f g) :=
  PS.imp (ps_if hc ha hb) fun D σ H ⟨c, ρ, h, G, I, q⟩ => ⟨c, ρ, h, G, I, Pst.of q fun d h' v H' G' q I' E' r' => by
    subst r'
    cases d with
    | true => exact ⟨c, ρ, h', G', I', q⟩
    | false => exact ⟨c, ρ, h', G', I', q⟩⟩

/-! ### tests -/
def valT (f : EM D) : EM Bool := bindM f fun d => lift (match d with | .bl b => some b | _ => none)
theorem t_val {e : Expr} {f : EM D} (h : DE X W .E e f) (he : ∀ whole, isTrue e X.env whole = (do let v ← whole; standAt e.pos; holding [v] (truthy v)) := by intro _; rfl) : DT X W e (valT f) :=
  PT.imp (pt_val h he) fun σ H Q ⟨c, ρ, h, G, I, q⟩ => ⟨c, ρ, h, G, I, Pst.bind q bT fun h1 d v H1 G1 I1 E1 r1 q1 => by
    obtain ⟨z, e, q2⟩ := Pst.lift q1
    cases d <;> first
      | (rename_i b
         have r2 : Rp X.K c.ha G1 (.bl b) v := r1
         have e' : b = z := Option.some.inj e
         cases r2
         subst e'
         exact ⟨b, rfl, q2 b H1 G1 I1 (Ext.refl _ _ _) rfl⟩)
      | (cases e)⟩
def andT (f g : EM Bool) : EM Bool := bindM f fun b => if b = true then g else pureM false
def orT (f g : EM Bool) : EM Bool := bindM f fun b => if b = true then pureM true else g
def notT (f : EM Bool) : EM Bool := bindM f fun b => pureM (!b)
abbrev DW (X : Cx) (W : WXd) (e : Expr) (f : EM Bool) : Prop := PW X e (tT X.K X.mg W f)
theorem PW.imp {X : Cx} {e : Expr} {t t' : TT} (h : PW X e t) (i : ∀ σ H Q, t' σ H Q → t σ H Q) : PW X e t' := ⟨fun wh pins s σ H Q I q => h.run wh pins s σ H Q I (i σ H Q q)⟩
theorem w_and1 {a : Expr} {f : EM Bool} {pos : Pos} (h : DT X W a f) : DW X W (.BoolOp .And [a] pos) f := pw_and1 h
theorem w_or1 {a : Expr} {f : EM Bool} {pos : Pos} (h : DT X W a f) : DW X W (.BoolOp .Or [a] pos) f := pw_or1 h
theorem w_and {a b : Expr} {rest : List Expr} {f g : EM Bool} {pos : Pos} (ha : DT X W a f) (hb : DW X W (.BoolOp .And (b :: rest) pos) g) : DW X W (.BoolOp .And (a :: b :: rest) pos) (andT f g) :=
  PW.imp (pw_and ha hb) fun σ H Q ⟨c, ρ, h, G, I, q⟩ => ⟨c, ρ, h, G, I, Pst.bind q bT fun h1 d v H1 G1 I1 E1 r1 q1 => by
    subst r1
    cases d with
    | true => exact ⟨c, ρ, h1, G1, I1, q1⟩
    | false => exact q1 false H1 G1 I1 (Ext.refl _ _ _) rfl⟩
theorem w_or {a b : Expr} {rest : List Expr} {f g : EM Bool} {pos : Pos} (ha : DT X W a f) (hb : DW X W (.BoolOp .Or (b :: rest) pos) g) : DW X W (.BoolOp .Or (a :: b :: rest) pos) (orT f g) :=
  PW.imp (pw_or ha hb) fun σ H Q ⟨c, ρ, h, G, I, q⟩ => ⟨c, ρ, h, G, I, Pst.bind q bT fun h1 d v H1 G1 I1 E1 r1 q1 => by
    subst r1
    cases d with
    | true => exact q1 true H1 G1 I1 (Ext.refl _ _ _) rfl
    | false => exact ⟨c, ρ, h1, G1, I1, q1⟩⟩
theorem t_w {e : Expr} {f : EM Bool} (h : DW X W e f) : DT X W e f := h.pt
theorem t_not {a : Expr} {f : EM Bool} {pos : Pos} (h : DT X W a f) : DT X W (.UnaryOp .Not a pos) (notT f) :=
  PT.imp (pt_not h) fun σ H Q ⟨c, ρ, h, G, I, q⟩ => ⟨c, ρ, h, G, I, Pst.bind q bT fun h1 d v H1 G1 I1 E1 r1 q1 => by
    subst r1
    exact q1 _ H1 G1 I1 (Ext.refl _ _ _) rfl⟩
/-! as values: bools -/
def andV (f g : EM D) : EM D := bindM f fun d => match d with
  | .bl true => g
  | .bl false => pureM (.bl false)
  | _ => fun _ _ => .stuck
def orV (f g : EM D) : EM D := bindM f fun d => match d with
  | .bl true => pureM (.bl true)
  | .bl false => g
  | _ => fun _ _ => .stuck
def notV (f : EM D) : EM D := bindM f fun d => match d with
  | .bl b => pureM (.bl (!b))
  | _ => fun _ _ => .stuck
theorem e_one {op : BoolOp} {a : Expr} {f : EM D} {pos : Pos} (h : DE X W .E a f) : DE X W .E (.BoolOp op [a] pos) f := pe_one h
theorem e_and {a b : Expr} {rest : List Expr} {f g : EM D} {pos : Pos} (ha : DE X W .E a f) (hb : DE X W .E (.BoolOp .And (b :: rest) pos) g) : DE X W .E (.BoolOp .And (a :: b :: rest) pos) (andV f g) :=
  PE.imp (pe_and ha hb) fun σ H Q ⟨c, ρ, h, G, I, q⟩ => ⟨c, ρ, h, G, I, Pst.bind q bE fun h1 d v H1 G1 I1 E1 r1 q1 => by
    cases d with
    | bl b =>
      cases (show Rp X.K c.ha G1 (.bl b) v from r1)
      refine ⟨b, rfl, ?_⟩
      cases b with
      | true => exact ⟨c, ρ, h1, G1, I1, q1⟩
      | false => exact q1 _ H1 G1 I1 (Ext.refl _ _ _) (.bl false)
    | _ => exact False.elim q1⟩
theorem e_or {a b : Expr} {rest : List Expr} {f g : EM D} {pos : Pos} (ha : DE X W .E a f) (hb : DE X W .E (.BoolOp .Or (b :: rest) pos) g) : DE X W .E (.BoolOp .Or (a :: b :: rest) pos) (orV f g) :=
  PE.imp (pe_or ha hb) fun σ H Q ⟨c, ρ, h, G, I, q⟩ => ⟨c, ρ, h, G, I, Pst.bind q bE fun h1 d v H1 G1 I1 E1 r1 q1 => by
    cases d with
    | bl b =>
      cases (show Rp X.K c.ha G1 (.bl b) v from r1)
      refine ⟨b, rfl, ?_⟩
      cases b with
      | true => exact q1 _ H1 G1 I1 (Ext.refl _ _ _) (.bl true)
      | false => exact ⟨c, ρ, h1, G1, I1, q1⟩
    | _ => exact False.elim q1⟩
theorem e_not {a : Expr} {f : EM D} {pos : Pos} (h : DE X W .E a f) : DE X W .E (.UnaryOp .Not a pos) (notV f) :=
  PE.imp (pe_not h) fun σ H Q ⟨c, ρ, h, G, I, q⟩ => ⟨c, ρ, h, G, I, Pst.bind q bE fun h1 d v H1 G1 I1 E1 r1 q1 => by
    cases d with
    | bl b =>
      cases (show Rp X.K c.ha G1 (.bl b) v from r1)
      exact ⟨b, rfl, q1 _ H1 G1 I1 (Ext.refl _ _ _) (.bl _)⟩
    | _ => exact False.elim q1⟩
def ifM (fc : EM Bool) (f g : EM D) : EM D := bindM fc fun b => if b = true then f else g
theorem e_if {k : Knd} {cx a b : Expr} {fc : EM Bool} {f g : EM D} {pos : Pos} (hc : DT X W cx fc) (ha : DE X W k a f) (hb : DE X W k b g) : DE X W k (.IfExp cx a b pos) (ifM fc f g) :=
  PE.imp (pe_ifExp hc ha hb) fun σ H Q ⟨c, ρ, h, G, I, q⟩ => ⟨c, ρ, h, G, I, Pst.bind q bE fun h1 d v H1 G1 I1 E1 r1 q1 => by
    subst r1
    cases d with
    | true => exact ⟨c, ρ, h1, G1, I1, q1⟩
    | false => exact ⟨c, ρ, h1, G1, I1, q1⟩⟩
end

/-! ### defs -/
def spD (K : PySem.W.Frag) (mg : Str → Option Value) (n : Nat) (F : List D → Hand → RE D) : Sp := fun vs H Q E => vs.length = n ∧ ∃ ha h G ds, Entry K ha h H G ∧ Rps K ha G ds vs ∧
  RunE (F ds h) (fun d h' => ∀ v H' G', Ext ha H G H' G' → Entry K ha h' H' G' → Rp K ha G' d v → Q v H') (fun x h' => ∀ H' G' Cx, Ext ha H G H' G' → Entry K ha h' H' G' → mg x = some (.ref Cx) → E (.ref Cx) none H')
def en0 (n : Nat) (ds : List D) : En := ds.map (fun d => some (.val d)) ++ List.replicate (n - ds.length) none
def fnD (n : Nat) (b : SM) : List D → Hand → RE D := fun ds h => match b (en0 n ds) h with
  | .ok (.ret d) _ h' => .ok d h'
  | .ok .next _ h' => .ok .non h'
  | .ok _ _ _ => .stuck
  | .err x _ h' => .err x h'
  | .stuck => .stuck
theorem si_start {K : PySem.W.Frag} {ha : HA} {h : Hand} {H G : Hp} {ds : List D} {vs : List V} {N : List Str} (e : Entry K ha h H G) (r : Rps K ha G ds vs) : SI K ⟨ha, H, G⟩ (en0 N.length ds) h (L2.start N vs) H G := by
  have hl := r.length
  have noOwn : ∀ (i : Nat) (es : List D), (en0 N.length ds)[i]? ≠ some (some (Sl.own es)) := fun i es q => by
    unfold en0 at q
    have := List.mem_of_getElem? q
    rcases List.mem_append.mp this with m | m
    · obtain ⟨d, _, e⟩ := List.mem_map.mp m
      cases e
    · have := (List.mem_replicate.mp m).2
      cases this
  refine ⟨e.sub, e.ntG, Le.refl G, fun _ _ _ _ h => h, fun _ h => h, fun a h => .inl h, e.hnd, e.hag, ?_, ?_, fun i d q => ?_, fun i es q => absurd q (noOwn i es), fun i j di dj a q _ _ _ => absurd q (noOwn i di), e.tab⟩
  · obtain ⟨ca, e1, _⟩ := e.hnd
    show H ha ≠ none
    rw [e1]; simp
  · unfold en0 L2.start
    simp [hl]
  · unfold en0 at q
    by_cases hi : i < (ds.map fun d => some (Sl.val d)).length
    · rw [List.getElem?_append_left hi, List.getElem?_map] at q
      cases e1 : ds[i]? with
      | none => rw [e1] at q; cases q
      | some d' =>
        rw [e1] at q
        cases q
        obtain ⟨v, y1, y2⟩ := r.get e1
        refine ⟨v, ?_, y2⟩
        unfold L2.start
        have hv : i < (vs.map some).length := by
          rw [List.length_map] at hi ⊢
          omega
        rw [List.getElem?_append_left hv, List.getElem?_map, y1]
        rfl
    · rw [List.getElem?_append_right (by omega)] at q
      have := (List.mem_replicate.mp (List.mem_of_getElem? q)).2
      cases this
section
variable {P : Program} {w : World} {K : PySem.W.Frag} {mg : Str → Option Value} {base : Heap}
abbrev cxD (P : Program) (w : World) (K : PySem.W.Frag) (mg : Str → Option Value) (base : Heap) (N : List Str) (qual : Str) (st : Stmt) (f : Addr) (cdv : Value) (A : Around) (outer : List Env) (s : Shared) (H : Hp) (E : XK) : Cx := cxOf (L2.CX P w) P w K mg base N qual (defScope st) f cdv A outer s H E
abbrev wxD (E : XK) : WXd := fun cls d _ H => E cls d H
theorem fn_ok {x qual : Str} {st : Stmt} {f : Addr} {fd : FuncData} {N ps : List Str} {k : Nat} {b : SM} (F : Fun K x qual st f fd) (S : FnScope N ps (defScope st))
    (hb : ∀ (cdv : Value) (A : Around) (outer : List Env) (s : Shared) (H : Hp) (E : XK), Room k (cxD P w K mg base N qual st f cdv A outer s H E).A → Takes (cxD P w K mg base N qual st f cdv A outer s H E) (wxD E) →
      PassesOwn (model P w) (cxD P w K mg base N qual st f cdv A outer s H E).A (cxD P w K mg base N qual st f cdv A outer s H E).env (cxD P w K mg base N qual st f cdv A outer s H E).xe →
      DSs (cxD P w K mg base N qual st f cdv A outer s H E) (wxD E) (defBody st) b) :
    FnOk P w K mg base (L2.CX P w) (k + 1) f fd ps (spD K mg ps.length (fnD N.length b)) := by
  refine F.okX S (fun vs H Q E h => h.1) (fun cdv A outer s H vs Q E hr h => ⟨_, hb cdv A outer s H E hr (takes_of rfl rfl rfl rfl) (passes_of rfl), ?_⟩)
  obtain ⟨hl, ha, hh, G, ds, e, r, q⟩ := h
  refine ⟨⟨ha, H, G⟩, _, hh, G, si_start e r, ?_⟩
  unfold fnD at q
  show PstS K mg (wxD E) ⟨ha, H, G⟩ _ (b (en0 N.length ds) hh)
  cases e1 : b (en0 N.length ds) hh with
  | stuck => rw [e1] at q; exact q
  | err x ρ' h' => rw [e1] at q; exact fun σ' H' G' Cx I' hm => q H' G' Cx I'.ext I'.entry hm
  | ok fl ρ' h' =>
    rw [e1] at q
    cases fl with
    | next => exact fun σ' H' G' I' => q .non H' G' I'.ext I'.entry .non
    | brk => exact False.elim q
    | cont => exact False.elim q
    | ret d => exact fun σ' H' G' I' v rv => q v H' G' I'.ext I'.entry rv
end
section
variable {X : Cx} {W : WXd}
def callM (F : List D → Hand → RE D) (g : EM (List D)) : EM D := bindM g fun ds _ h => F ds h
theorem e_call {k : Nat} {f : Addr} {fd : FuncData} {ps : List Str} {n : Nat} {F : List D → Hand → RE D} {x : Str} {p pos : Pos} {e : Expr} {es : List Expr} {g : EM (List D)} (FO : FnOk X.prog X.w X.K X.mg X.base (L2.CX X.prog X.w) k f fd ps (spD X.K X.mg n F)) (hr : Room k X.A)
    (hg : Gl X x) (hm : X.mg x = some (.ref f)) (hk : PySem.W.keepIn X.K (.ref f) = true) (hb : Binds X.K fd ps []) (tk : Takes X W) (ha : DA X W (e :: es) g) (hn : ∀ ρ h ds h', g ρ h = .ok ds h' → ds.length = n) (hdb : (x == ("__debug__" : Str)) = false := by decide)
    (he : starEach (e :: es) X.env = (false, eval e X.env) :: starEach es X.env := by rfl) (hpl : (backTo pos (starEach es X.env)).any (·.1) = false := by rfl) : DE X W .E (.Call (.Name x p) (e :: es) [] pos) (callM F g) :=
  PE.imp (pe_callS FO hr hg hm hk hb (fun σ => passAt tk σ) ha hdb he hpl) fun σ H Q ⟨c, ρ, h, G, I, q⟩ => ⟨c, ρ, h, G, I, by
    have q' := RunE.bind (show RunE ((g ρ h).bind fun ds h => F ds h) _ _ from q)
    unfold Pst
    cases e1 : g ρ h with
    | stuck => rw [e1] at q'; exact q'
    | err x h' => rw [e1] at q'; exact q'
    | ok ds h1 =>
      rw [e1] at q'
      refine fun vs H1 G1 I1 E1 r1 => ⟨by rw [← r1.length]; exact hn ρ h ds h1 e1, c.ha, h1, G1, ds, I1.entry, r1, ?_⟩
      refine RunE.mono (show RunE (F ds h1) _ _ from q') (fun d h2 q2 v H2 G2 x2 e2 rv => q2 v H2 G2 (I1.call x2 e2) (E1.trans x2) rv) (fun y h2 q2 H2 G2 Cx x2 e2 hm2 => q2 H2 G2 Cx (I1.call x2 e2) (E1.trans x2) hm2)⟩
theorem len_nil : ∀ ρ h ds h', (pureM [] : EM (List D)) ρ h = .ok ds h' → ds.length = 0 := fun ρ h ds h' e => by cases e; rfl
theorem len_cons {f : EM D} {g : EM (List D)} {n : Nat} (hg : ∀ ρ h ds h', g ρ h = .ok ds h' → ds.length = n) : ∀ ρ h ds h', (consM f g) ρ h = .ok ds h' → ds.length = n + 1 := fun ρ h ds h' e => by
  unfold consM bindM at e
  cases e1 : f ρ h with
  | stuck => rw [e1] at e; cases e
  | err x h' => rw [e1] at e; cases e
  | ok d h1 =>
    rw [e1] at e
    have e : ((g ρ h1).bind fun ds h' => pureM (d :: ds) ρ h') = .ok ds h' := e
    cases e2 : g ρ h1 with
    | stuck => rw [e2] at e; cases e
    | err x h' => rw [e2] at e; cases e
    | ok es h2 =>
      rw [e2] at e
      have e : RE.ok (d :: es) h2 = .ok ds h' := e
      cases e
      exact congrArg (· + 1) (hg ρ h1 es _ e2)
end
end DL

set_option Elab.async false
set_option linter.all false
set_option maxRecDepth 100000
set_option maxHeartbeats 4000000
namespace DL
open PySem PySem.Spec PyProof.Rows L2

/-! ### targets -/
def Agree (ts : List Nat) (σ σ' : L2.St) : Prop := σ'.length = σ.length ∧ ∀ i, i ∉ ts → σ'[i]? = σ[i]?
theorem Agree.refl (ts : List Nat) (σ : L2.St) : Agree ts σ σ := ⟨rfl, fun _ _ => rfl⟩
theorem Agree.trans {ts us : List Nat} {σ σ1 σ2 : L2.St} (a : Agree ts σ σ1) (b : Agree us σ1 σ2) : Agree (ts ++ us) σ σ2 :=
  ⟨b.1.trans a.1, fun i h => (b.2 i fun z => h (List.mem_append_right _ z)).trans (a.2 i fun z => h (List.mem_append_left _ z))⟩
abbrev TM := D → En → Option En
def TgtR (K : PySem.W.Frag) (t : TG) (g : TM) (ts : List Nat) : Prop := ∀ (c : C) (ρ : En) (h : Hand) (σ : L2.St) (H G : Hp) (d : D) (v : V) (ρ' : En) (Q : L2.St → Hp → Prop), SI K c ρ h σ H G → Rp K c.ha G d v → g d ρ = some ρ' →
  (∀ σ', SI K c ρ' h σ' H G → Agree ts σ σ' → Q σ' H) → t v σ H Q
def TgtsR (K : PySem.W.Frag) (t : TGs) (g : List D → En → Option En) (ts : List Nat) : Prop := ∀ (c : C) (ρ : En) (h : Hand) (σ : L2.St) (H G : Hp) (ds : List D) (vs : List V) (ρ' : En) (Q : L2.St → Hp → Prop), SI K c ρ h σ H G → Rps K c.ha G ds vs → g ds ρ = some ρ' →
  (∀ σ', SI K c ρ' h σ' H G → Agree ts σ σ' → Q σ' H) → t vs σ H Q
def tgN (i : Nat) : TM := fun d ρ => some (ρ.set i (some (.val d)))
def tgNil : List D → En → Option En
  | [], ρ => some ρ
  | _, _ => none
def tgCons (g : TM) (gs : List D → En → Option En) : List D → En → Option En
  | d :: ds, ρ => (g d ρ).bind (gs ds)
  | [], _ => none
def tgT (n : Nat) (gs : List D → En → Option En) : TM
  | .tup ds, ρ => if ds.length = n then gs ds ρ else none
  | _, _ => none
theorem tr_name {K : PySem.W.Frag} (i : Nat) : TgtR K (gName i) (tgN i) [i] := by
  intro c ρ h σ H G d v ρ' Q I r e q
  cases e
  exact q _ (I.setVal i r) ⟨List.length_set .., fun j hj => List.getElem?_set_ne (fun z => hj (by simp [z]))⟩
theorem tr_nil {K : PySem.W.Frag} : TgtsR K gNil tgNil [] := by
  intro c ρ h σ H G ds vs ρ' Q I r e q
  cases r with
  | nil => cases e; exact ⟨rfl, q σ I (Agree.refl _ _)⟩
  | cons _ _ => cases e
theorem tr_cons {K : PySem.W.Frag} {t : TG} {ts' : TGs} {g : TM} {gs : List D → En → Option En} {ts us : List Nat} (h1 : TgtR K t g ts) (h2 : TgtsR K ts' gs us) : TgtsR K (gCons t ts') (tgCons g gs) (ts ++ us) := by
  intro c ρ h σ H G ds vs ρ' Q I r e q
  cases r with
  | nil => cases e
  | cons rd rr =>
    rename_i d v ds vs
    have e : (g d ρ).bind (gs ds) = some ρ' := e
    cases e1 : g d ρ with
    | none => rw [e1] at e; cases e
    | some ρ1 =>
      rw [e1] at e
      exact ⟨v, vs, rfl, h1 c ρ h σ H G d v ρ1 _ I rd e1 fun σ1 I1 a1 => h2 c ρ1 h σ1 H G ds vs ρ' Q I1 rr e fun σ2 I2 a2 => q σ2 I2 (a1.trans a2)⟩
theorem tr_tup {K : PySem.W.Frag} {n : Nat} {ts' : TGs} {gs : List D → En → Option En} {us : List Nat} (h : TgtsR K ts' gs us) : TgtR K (gTup K n ts') (tgT n gs) us := by
  intro c ρ hh σ H G d v ρ' Q I r e q
  cases d with
  | tup ds =>
    cases r with
    | tup hs rr =>
      rename_i a vs
      have e2 : ds.length = n ∧ gs ds ρ = some ρ' := by
        have e : (if ds.length = n then gs ds ρ else none) = some ρ' := e
        by_cases hl : ds.length = n
        · rw [if_pos hl] at e; exact ⟨hl, e⟩
        · rw [if_neg hl] at e; cases e
      exact ⟨a, vs, rfl, Le.t I.sub hs, by rw [← rr.length]; exact e2.1, h c ρ hh σ H G ds vs ρ' Q I rr e2.2 q⟩
  | _ => cases e
/-- target = value, a target of any form -/
def asgS (g : TM) (f : EM D) : SM := fun ρ h => (f ρ h).to ρ fun d h' => match g d ρ with
  | some ρ' => .ok .next ρ' h'
  | none => .stuck
section
variable {X : Cx} {W : WXd}
theorem s_asg {tg e : Expr} {f : EM D} {t : TG} {g : TM} {ts : List Nat} {pos : Pos} (he : DE X W .E e f) (hg : PG X tg t) (ht : TgtR X.K t g ts) (hs : swapsWithSole [tg] e pos.line X.env = pure false := by rfl) (hw : swappedStores [tg] e X.env = pure none := by rfl)
    (h1 : (assignEach [tg] X.env).map (·.2) = [assign tg X.env] := by rfl) : DS X W (.Assign [tg] e pos) (asgS g f) :=
  PS.imp (ps_asg he hg hs hw h1) fun D σ H ⟨c, ρ, h, G, I, q⟩ => ⟨c, ρ, h, G, I, Pst.of q fun d h' v H' G' q I' E' r' => by
    cases e : g d ρ with
    | none => rw [e] at q; exact False.elim q
    | some ρ' =>
      rw [e] at q
      exact ht c ρ h' σ H' G' d v ρ' _ I' r' e fun σ' I2 _ => q σ' H' G' I2⟩
end

/-! ### what is walked -/
structure ItOk (K : PySem.W.Frag) (ha : HA) (G : Hp) (J : It) (ds : List D) : Prop where
  go : ∀ i H' G', Le G G' → Le G' H' → i < ds.length → J.go i H'
  yld : ∀ i H' G' x H'', Le G G' → Le G' H' → (∀ a o, G' a = some o → nt o) → i < ds.length → J.yld i H' x H'' → ∃ G'' d, ds[i]? = some d ∧ New H' G' H'' G'' ∧ Rp K ha G'' d x
  stop : ∀ i H' G', Le G G' → Le G' H' → ds.length ≤ i → J.stop i H'
def tI (K : PySem.W.Frag) (mg : Str → Option Value) (W : WXd) (f : EM (List D)) : TI := tG K mg W (fun ha _ _ G ds J => ItOk K ha G J ds) f
abbrev DI (X : Cx) (W : WXd) (tg iter : Expr) (f : EM (List D)) : Prop := PI X tg iter (tI X.K X.mg W f)
theorem PI.imp {X : Cx} {tg e : Expr} {t t' : TI} (h : PI X tg e t) (i : ∀ σ H Q, t' σ H Q → t σ H Q) : PI X tg e t' := ⟨fun pins s σ H Q I q => h.run pins s σ H Q I (i σ H Q q)⟩
theorem itl_go {K : PySem.W.Frag} {ha : HA} {G : Hp} {a : Addr} {vs : List V} {ds : List D} (hs : SqL K G a vs) (r : Rps K ha G ds vs) : ItOk K ha G (Itl K a) ds := by
  refine ⟨fun i H' G' l1 l2 hi => ?_, fun i H' G' x H'' l1 l2 ng hi y => ?_, fun i H' G' l1 l2 hi => ?_⟩
  · have : i < vs.length := by rw [← r.length]; exact hi
    exact ⟨vs, vs[i], (l1.trans l2).l hs, List.getElem?_eq_getElem this⟩
  · obtain ⟨rfl, hx⟩ := y
    have e := hx vs ((l1.trans l2).l hs)
    obtain ⟨d, e1, e2⟩ := r.getV e
    exact ⟨G', d, e1, New.refl l2 ng, e2.le l1⟩
  · exact ⟨vs, (l1.trans l2).l hs, by rw [← r.length]; exact hi⟩
theorem itt_ok {K : PySem.W.Frag} {ha : HA} {G : Hp} {a : Addr} {vs : List V} {ds : List D} (hs : SqT K G a vs) (r : Rps K ha G ds vs) : ItOk K ha G (Itt K a) ds := by
  refine ⟨fun i H' G' l1 l2 hi => ?_, fun i H' G' x H'' l1 l2 ng hi y => ?_, fun i H' G' l1 l2 hi => ?_⟩
  · have : i < vs.length := by rw [← r.length]; exact hi
    exact ⟨vs, vs[i], (l1.trans l2).t hs, List.getElem?_eq_getElem this⟩
  · obtain ⟨rfl, hx⟩ := y
    have e := hx vs ((l1.trans l2).t hs)
    obtain ⟨d, e1, e2⟩ := r.getV e
    exact ⟨G', d, e1, New.refl l2 ng, e2.le l1⟩
  · exact ⟨vs, (l1.trans l2).t hs, by rw [← r.length]; exact hi⟩
def chars (l : List Nat) : List D := l.map fun c => .str [c]
def seqItems (f : EM D) : EM (List D) := bindM f fun d => lift (match d with
  | .lst ds => some ds
  | .tup ds => some ds
  | .str l => some (chars l)
  | _ => none)
theorem its_ok {K : PySem.W.Frag} {ha : HA} {G : Hp} {l : List Nat} : ItOk K ha G (Its ⟨l.toArray⟩) (chars l) := by
  refine ⟨fun i H' G' l1 l2 hi => ?_, fun i H' G' x H'' l1 l2 ng hi y => ?_, fun i H' G' l1 l2 hi => ?_⟩
  · show i < l.toArray.size
    simpa [chars] using hi
  · obtain ⟨rfl, c, hc, rfl⟩ := y
    refine ⟨G', .str [c], ?_, New.refl l2 ng, .str [c]⟩
    have hc' : l[i]? = some c := by simpa using hc
    simp [chars, hc']
  · show l.toArray.size ≤ i
    simpa [chars] using hi
section
variable {X : Cx} {W : WXd}
/-- a list that stands still, a tuple, a text -/
theorem i_seq {tg e : Expr} {f : EM D} (he : DE X W .E e f) : DI X W tg e (seqItems f) := by
  refine ⟨fun pins s σ H R J ⟨c, ρ, h, G, I, q⟩ => ?_⟩
  have key : ∀ d h', f ρ h = .ok d h' → ∀ ds, (match d with | .lst ds => some ds | .tup ds => some ds | .str l => some (chars l) | _ => none : Option (List D)) = some ds →
      ∀ {t : TI} (Q' : VK), (∀ v H' G', SI X.K c ρ h' σ H' G' → Rp X.K c.ha G' d v → (∀ J', ItOk X.K c.ha G' J' ds → R J' H') → Q' v H') → tE X.K X.mg W .E f σ H Q' := by
    intro d h' e1 ds e2 t Q' k
    refine ⟨c, ρ, h, G, I, ?_⟩
    unfold Pst seqItems bindM at q
    unfold Pst
    rw [e1] at q ⊢
    unfold RE.bind DL.lift at q
    dsimp only at q
    rw [e2] at q
    exact fun v H' G' I' E' r' => k v H' G' I' r' fun J' o => q J' H' G' I' E' o
  cases e1 : f ρ h with
  | stuck =>
    unfold Pst seqItems bindM at q
    rw [e1] at q
    exact False.elim q
  | err x h' =>
    have q2 : tE X.K X.mg W .E f σ H (fun v H1 => ∃ a, v = .ref a ∧ (∃ xs, SqL X.K H1 a xs) ∧ R (Itl X.K a) H1) := ⟨c, ρ, h, G, I, by
      unfold Pst seqItems bindM at q
      unfold Pst
      rw [e1] at q ⊢
      exact q⟩
    exact (pi_list he).run pins s σ H R J q2
  | ok d h' =>
    cases d with
    | lst ds =>
      refine (pi_list he).run pins s σ H R J (key (.lst ds) h' e1 ds rfl (t := iList X.K (tE X.K X.mg W .E f)) _ fun v H' G' I' r' k => ?_)
      cases r' with
      | lst hs rr => exact ⟨_, rfl, ⟨_, .of (I'.sub _ _ hs)⟩, k _ (itl_go (.of hs) rr)⟩
    | tup ds =>
      refine (pi_tup he).run pins s σ H R J (key (.tup ds) h' e1 ds rfl (t := iTup X.K (tE X.K X.mg W .E f)) _ fun v H' G' I' r' k => ?_)
      cases r' with
      | tup hs rr => exact ⟨_, rfl, ⟨_, Le.t I'.sub hs⟩, k _ (itt_ok hs rr)⟩
    | str l =>
      refine (pi_str he).run pins s σ H R J (key (.str l) h' e1 (chars l) rfl (t := iStr (tE X.K X.mg W .E f)) _ fun v H' G' I' r' k => ?_)
      cases r' with
      | str => exact ⟨_, rfl, k _ its_ok⟩
    | non => unfold Pst seqItems bindM at q; rw [e1] at q; exact False.elim q
    | bl b => unfold Pst seqItems bindM at q; rw [e1] at q; exact False.elim q
    | int i => unfold Pst seqItems bindM at q; rw [e1] at q; exact False.elim q
    | hnd => unfold Pst seqItems bindM at q; rw [e1] at q; exact False.elim q
end
end DL

set_option Elab.async false
set_option linter.all false
set_option maxRecDepth 100000
set_option maxHeartbeats 4000000
namespace DL
open PySem PySem.Spec PyProof.Rows L2
theorem bI {K : PySem.W.Frag} : ∀ (ha : HA) (Hs G0 H1 G1 H' G' : Hp) (d : List D) (v : It), Ext ha Hs G0 H1 G1 → ItOk K ha G' v d → ItOk K ha G' v d := fun _ _ _ _ _ _ _ _ _ _ r => r

/-! ### ranges -/
def rangeD (lo : Int) (n : Nat) : List D := (List.range n).map fun (i : Nat) => .int (lo + (i : Int))
theorem itr_ok {K : PySem.W.Frag} {ha : HA} {G : Hp} {lo : Int} {n : Nat} : ItOk K ha G (Itr lo n) (rangeD lo n) := by
  refine ⟨fun i H' G' l1 l2 hi => ?_, fun i H' G' x H'' l1 l2 ng hi y => ?_, fun i H' G' l1 l2 hi => ?_⟩
  · show i < n
    simpa [rangeD] using hi
  · obtain ⟨rfl, rfl⟩ := y
    have hi' : i < n := by simpa [rangeD] using hi
    exact ⟨G', .int (lo + i), by simp [rangeD, hi'], New.refl l2 ng, .int _⟩
  · show n ≤ i
    simpa [rangeD] using hi
def rng1 : List D → Option (List D)
  | [.int j] => if -(2 ^ 62) ≤ j ∧ j < 2 ^ 62 then some (rangeD 0 j.toNat) else none
  | _ => none
def rng2 : List D → Option (List D)
  | [.int i, .int j] => if -(2 ^ 62) ≤ i ∧ i < 2 ^ 62 ∧ -(2 ^ 62) ≤ j ∧ j < 2 ^ 62 then some (rangeD i (j - i).toNat) else none
  | _ => none
def mapM1 {α β : Type} (f : EM α) (p : α → Option β) : EM β := bindM f fun a => lift (p a)
section
variable {X : Cx} {W : WXd}
theorem i_range1 {tg a : Expr} {g : EM (List D)} {p pos : Pos} (hg : Gl X "range") (hm : X.mg "range" = none) (ha : DA X W [a] g) (hs : starEach [a] X.env = [(false, eval a X.env)] := by rfl) : DI X W tg (.Call (.Name "range" p) [a] [] pos) (mapM1 g rng1) :=
  PI.imp (pi_range1 hg hm ha hs) fun σ H R ⟨c, ρ, h, G, I, q⟩ => ⟨c, ρ, h, G, I, Pst.bind q bI fun h1 ds vs H1 G1 I1 E1 r1 q1 => by
    obtain ⟨z, e, q2⟩ := Pst.lift q1
    unfold rng1 at e
    split at e
    · obtain ⟨⟨b1, b2⟩, rfl⟩ := if_some e
      cases r1 with
      | cons r1 rr =>
        cases rr
        cases r1
        exact ⟨_, rfl, b1, b2, q2 _ H1 G1 I1 (Ext.refl _ _ _) itr_ok⟩
    · cases e⟩
theorem i_range2 {tg a b : Expr} {g : EM (List D)} {p pos : Pos} (hg : Gl X "range") (hm : X.mg "range" = none) (ha : DA X W [a, b] g) (hs : starEach [a, b] X.env = [(false, eval a X.env), (false, eval b X.env)] := by rfl)
    (hs2 : starEach [b] X.env = [(false, eval b X.env)] := by rfl) : DI X W tg (.Call (.Name "range" p) [a, b] [] pos) (mapM1 g rng2) :=
  PI.imp (pi_range2 hg hm ha hs hs2) fun σ H R ⟨c, ρ, h, G, I, q⟩ => ⟨c, ρ, h, G, I, Pst.bind q bI fun h1 ds vs H1 G1 I1 E1 r1 q1 => by
    obtain ⟨z, e, q2⟩ := Pst.lift q1
    unfold rng2 at e
    split at e
    · obtain ⟨⟨b1, b2, b3, b4⟩, rfl⟩ := if_some e
      cases r1 with
      | cons r1 rr =>
        cases rr with
        | cons r2 rr =>
          cases rr
          cases r1
          cases r2
          exact ⟨_, _, rfl, ⟨b1, b2, b3, b4⟩, q2 _ H1 G1 I1 (Ext.refl _ _ _) itr_ok⟩
    · cases e⟩
end

/-! ### pairs: zip, enumerate -/
def pairsD (xs ys : List D) : List D := (xs.zip ys).map fun p => .tup [p.1, p.2]
theorem pairs_at {xs ys : List D} {i : Nat} {x y : D} (h1 : xs[i]? = some x) (h2 : ys[i]? = some y) : (pairsD xs ys)[i]? = some (.tup [x, y]) := by
  simp [pairsD, List.getElem?_zip_eq_some, h1, h2]
/-- a walk that lays new pairs -/
theorem pairs_ok {K : PySem.W.Frag} {ha : HA} {G : Hp} {J : It} {xs ys : List D} (hgo : ∀ i H' G', Le G G' → Le G' H' → i < xs.length → i < ys.length → J.go i H')
    (hy : ∀ i H' G' v H'', Le G G' → Le G' H' → i < xs.length → i < ys.length → J.yld i H' v H'' → ∃ T x y dx dy, v = .ref T ∧ H' T = none ∧ H'' = upd H' T (.tup [x, y]) ∧ xs[i]? = some dx ∧ ys[i]? = some dy ∧ Rp K ha G' dx x ∧ Rp K ha G' dy y)
    (hst : ∀ i H' G', Le G G' → Le G' H' → xs.length ≤ i ∨ ys.length ≤ i → J.stop i H') : ItOk K ha G J (pairsD xs ys) := by
  have hl : (pairsD xs ys).length = min xs.length ys.length := by simp [pairsD]
  refine ⟨fun i H' G' l1 l2 hi => hgo i H' G' l1 l2 (by omega) (by omega), fun i H' G' x H'' l1 l2 ng hi yd => ?_, fun i H' G' l1 l2 hi => hst i H' G' l1 l2 (by omega)⟩
  obtain ⟨T, x, y, dx, dy, rfl, hT, rfl, e1, e2, r1, r2⟩ := hy i H' G' _ H'' l1 l2 (by omega) (by omega) yd
  have n := New.one (o := .tup [x, y]) l2 ng hT nt_tup
  exact ⟨_, _, pairs_at e1 e2, n, .tup (.inl (.inl upd_same)) (.cons (r1.le n.gg) (.cons (r2.le n.gg) .nil))⟩
theorem itz_ok {K : PySem.W.Frag} {ha : HA} {G : Hp} {a b : Addr} {vs ws : List V} {xs ys : List D} (h1 : SqL K G a vs) (r1 : Rps K ha G xs vs) (h2 : SqL K G b ws) (r2 : Rps K ha G ys ws) : ItOk K ha G (Itz K a b) (pairsD xs ys) := by
  refine pairs_ok (fun i H' G' l1 l2 hx hy => ?_) (fun i H' G' v H'' l1 l2 hx hy y => ?_) (fun i H' G' l1 l2 hi => ?_)
  · have e1 : i < vs.length := by rw [← r1.length]; exact hx
    have e2 : i < ws.length := by rw [← r2.length]; exact hy
    exact ⟨vs, ws, vs[i], ws[i], (l1.trans l2).l h1, (l1.trans l2).l h2, List.getElem?_eq_getElem e1, List.getElem?_eq_getElem e2⟩
  · obtain ⟨T, x, y, rfl, hT, rfl, f1, f2⟩ := y
    have e1 := f1 vs ((l1.trans l2).l h1)
    have e2 := f2 ws ((l1.trans l2).l h2)
    obtain ⟨dx, y1, y2⟩ := r1.getV e1
    obtain ⟨dy, y3, y4⟩ := r2.getV e2
    exact ⟨T, x, y, dx, dy, rfl, hT, rfl, y1, y3, y2.le l1, y4.le l1⟩
  · refine ⟨vs, ws, (l1.trans l2).l h1, (l1.trans l2).l h2, ?_⟩
    rw [← r1.length, ← r2.length]
    exact hi
theorem itzT_ok {K : PySem.W.Frag} {ha : HA} {G : Hp} {a b : Addr} {vs ws : List V} {xs ys : List D} (h1 : SqT K G a vs) (r1 : Rps K ha G xs vs) (h2 : SqT K G b ws) (r2 : Rps K ha G ys ws) : ItOk K ha G (RZ.ItzT K a b) (pairsD xs ys) := by
  refine pairs_ok (fun i H' G' l1 l2 hx hy => ?_) (fun i H' G' v H'' l1 l2 hx hy y => ?_) (fun i H' G' l1 l2 hi => ?_)
  · have e1 : i < vs.length := by rw [← r1.length]; exact hx
    have e2 : i < ws.length := by rw [← r2.length]; exact hy
    exact ⟨vs, ws, vs[i], ws[i], (l1.trans l2).t h1, (l1.trans l2).t h2, List.getElem?_eq_getElem e1, List.getElem?_eq_getElem e2⟩
  · obtain ⟨T, x, y, rfl, hT, rfl, f1, f2⟩ := y
    have e1 := f1 vs ((l1.trans l2).t h1)
    have e2 := f2 ws ((l1.trans l2).t h2)
    obtain ⟨dx, y1, y2⟩ := r1.getV e1
    obtain ⟨dy, y3, y4⟩ := r2.getV e2
    exact ⟨T, x, y, dx, dy, rfl, hT, rfl, y1, y3, y2.le l1, y4.le l1⟩
  · refine ⟨vs, ws, (l1.trans l2).t h1, (l1.trans l2).t h2, ?_⟩
    rw [← r1.length, ← r2.length]
    exact hi
def zipI : List D → Option (List D)
  | [.lst xs, .lst ys] => some (pairsD xs ys)
  | [.tup xs, .tup ys] => some (pairsD xs ys)
  | _ => none
section
variable {X : Cx} {W : WXd}
theorem i_zip {a b : Expr} {g : EM (List D)} {p pos tpos : Pos} {elts : List Expr} {kk : Nat} (hg : Gl X "zip") (hm : X.mg "zip" = none) (ha : DA X W [a, b] g) (hs : starEach [a, b] X.env = (false, eval a X.env) :: starEach [b] X.env := by rfl)
    (hs2 : (backTo pos (starEach [b] X.env)).any (·.1) = false := by rfl) : DI X W (.Tuple elts kk tpos) (.Call (.Name "zip" p) [a, b] [] pos) (mapM1 g zipI) :=
  PI.imp (RZ.pi_zipA hg hm ha hs hs2) fun σ H R ⟨c, ρ, h, G, I, q⟩ => ⟨c, ρ, h, G, I, Pst.bind q bI fun h1 ds vs H1 G1 I1 E1 r1 q1 => by
    obtain ⟨z, e, q2⟩ := Pst.lift q1
    unfold zipI at e
    split at e
    · cases e
      cases r1 with
      | cons r1 rr =>
        cases rr with
        | cons r2 rr =>
          cases rr
          cases r1 with
          | lst h1 r1 =>
            cases r2 with
            | lst h2 r2 => exact ⟨_, _, _, _, rfl, .inl ⟨.of (I1.sub _ _ h1), .of (I1.sub _ _ h2), q2 _ H1 G1 I1 (Ext.refl _ _ _) (itz_ok (.of h1) r1 (.of h2) r2)⟩⟩
    · cases e
      cases r1 with
      | cons r1 rr =>
        cases rr with
        | cons r2 rr =>
          cases rr
          cases r1 with
          | tup h1 r1 =>
            cases r2 with
            | tup h2 r2 => exact ⟨_, _, _, _, rfl, .inr ⟨Le.t I1.sub h1, Le.t I1.sub h2, q2 _ H1 G1 I1 (Ext.refl _ _ _) (itzT_ok h1 r1 h2 r2)⟩⟩
    · cases e⟩
end

/-! ### for -/
def loopS (g : TM) (b : SM) : List D → SM
  | [] => skipS
  | d :: ds => fun ρ h => match g d ρ with
    | none => .stuck
    | some ρ1 => match b ρ1 h with
      | .ok .next ρ' h' => loopS g b ds ρ' h'
      | .ok .cont ρ' h' => loopS g b ds ρ' h'
      | .ok .brk ρ' h' => .ok .next ρ' h'
      | r => r
def forS (f : EM (List D)) (g : TM) (b : SM) : SM := fun ρ h => (f ρ h).to ρ fun ds h' => loopS g b ds ρ h'
section
variable {K : PySem.W.Frag} {c : C} {ρ ρ' : En} {h h' : Hand} {σ σ' : L2.St} {H G H' G' : Hp}
theorem SI.tight (I : SI K c ρ h σ H G) : SI K { c with G0 := G } ρ h σ H G :=
  ⟨I.sub, I.ntG, Le.refl G, I.h0, I.d0, fun a z => .inl z, I.hnd, I.hag, I.h0a, I.len, I.val, I.own, I.apart, I.tab⟩
theorem SI.loosen (I : SI K c ρ h σ H G) (J : SI K { c with G0 := G } ρ' h' σ' H' G') : SI K c ρ' h' σ' H' G' :=
  ⟨J.sub, J.ntG, I.g0.trans J.g0, J.h0, J.d0, fun a z => (J.new a z).elim (I.new a) .inr, J.hnd, J.hag, J.h0a, J.len, J.val, J.own, J.apart, J.tab⟩
end
section
variable {X : Cx} {W : WXd}
theorem s_for {tg iter : Expr} {body : List Stmt} {f : EM (List D)} {t : TG} {g : TM} {ts : List Nat} {b : SM} {pos : Pos} (hp : PassesOwn (model X.prog X.w) X.A X.env X.xe) (hc : X.calm = true) (hi : DI X W tg iter f) (hg : PG X tg t) (ht : TgtR X.K t g ts) (hb : DSs X W body b)
    (hs : ∀ x, foldedSetIterable iter X.env x = pure x := by intro _; rfl) : DS X W (.For tg iter body [] pos) (forS f g b) :=
  PS.imp (ps_for hp hc hi hg hb hs) fun D σ0 H0 ⟨c, ρ0, h0, G0, I0, q⟩ => ⟨c, ρ0, h0, G0, I0, Pst.of q fun ds h1 J H1 G1 q1 I1 E1 o => by
    refine ⟨fun i m σ H => ∃ ρ h G, SI X.K c ρ h σ H G ∧ Le G1 G ∧ m = ds.length - i ∧ PstS X.K X.mg W c D (loopS g b (ds.drop i) ρ h), ⟨ds.length, ρ0, h1, G1, I1, Le.refl _, rfl, q1⟩, ?_⟩
    rintro i m σ H ⟨ρ, h, G, I, le, rfl, q⟩
    by_cases hi : i < ds.length
    · refine .inr ⟨o.go i H G le I.sub hi, fun σ' H' => ∃ ρ' h' G', SI X.K c ρ' h' σ' H' G' ∧ Le G1 G' ∧ PstS X.K X.mg W c D (loopS g b (ds.drop (i + 1)) ρ' h'), ?_, fun x H' y => ?_⟩
      · rintro σ' H' ⟨ρ', h', G', I', le', q'⟩
        exact ⟨ds.length - (i + 1), by omega, ρ', h', G', I', le', rfl, q'⟩
      · obtain ⟨G', d, e1, n, rd⟩ := o.yld i H G x H' le I.sub I.ntG hi y
        have I' := I.nw n
        have le' := le.trans n.gg
        have ed : ds.drop i = d :: ds.drop (i + 1) := by
          obtain ⟨hl, e2⟩ := List.getElem?_eq_some_iff.mp e1
          rw [List.drop_eq_getElem_cons hl, e2]
        rw [ed] at q
        unfold loopS at q
        cases e2 : g d ρ with
        | none => rw [e2] at q; exact False.elim q
        | some ρ1 =>
          rw [e2] at q
          dsimp only at q
          refine ht c ρ h σ H' G' d x ρ1 _ I' rd e2 fun σ1 J1 _ => ⟨{ c with G0 := G' }, ρ1, h, G', J1.tight, ?_⟩
          unfold PstS RunS
          cases e3 : b ρ1 h with
          | stuck => rw [e3] at q; exact False.elim q
          | err y ρ2 h2 => rw [e3] at q; exact fun σ2 H2 G2 Cx K2 hm => q σ2 H2 G2 Cx (J1.loosen K2) hm
          | ok fl ρ2 h2 =>
            rw [e3] at q
            cases fl with
            | next => exact fun σ2 H2 G2 K2 => ⟨ρ2, h2, G2, J1.loosen K2, le'.trans K2.g0, q⟩
            | cont => exact fun σ2 H2 G2 K2 => ⟨ρ2, h2, G2, J1.loosen K2, le'.trans K2.g0, q⟩
            | brk => exact fun σ2 H2 G2 K2 => q σ2 H2 G2 (J1.loosen K2)
            | ret z => exact fun σ2 H2 G2 K2 v rv => q σ2 H2 G2 (J1.loosen K2) v rv
    · refine .inl ⟨o.stop i H G le I.sub (by omega), ?_⟩
      rw [List.drop_eq_nil_of_le (by omega)] at q
      exact q σ H G I⟩

/-! ### while -/
def whileN (cd : EM Bool) (b : SM) : Nat → SM
  | 0 => fun _ _ => .stuck
  | n + 1 => fun ρ h => (cd ρ h).to ρ fun t h' => if t = true then match b ρ h' with
      | .ok .next ρ' h'' => whileN cd b n ρ' h''
      | .ok .cont ρ' h'' => whileN cd b n ρ' h''
      | .ok .brk ρ' h'' => .ok .next ρ' h''
      | r => r
    else .ok .next ρ h'
theorem s_while {cx : Expr} {body : List Stmt} {cd : EM Bool} {b : SM} {n : Nat} {pos : Pos} (hp : PassesOwn (model X.prog X.w) X.A X.env X.xe) (hc : DT X W cx cd) (hb : DSs X W body b) : DS X W (.While cx body [] pos) (whileN cd b n) :=
  PS.imp (ps_while hp hc hb) fun D σ0 H0 ⟨c, ρ0, h0, G0, I0, q0⟩ => by
    refine ⟨fun m σ H => ∃ ρ h G, SI X.K c ρ h σ H G ∧ PstS X.K X.mg W c D (whileN cd b m ρ h), ⟨n, ρ0, h0, G0, I0, q0⟩, ?_⟩
    rintro m σ H ⟨ρ, h, G, I, q⟩
    cases m with
    | zero => exact False.elim q
    | succ m =>
      unfold whileN at q
      refine ⟨c, ρ, h, G, I, Pst.of q fun t h' v H' G' q I' E' r' => ?_⟩
      subst r'
      cases t with
      | false => exact q σ H' G' I'
      | true =>
        rw [if_pos rfl] at q ⊢
        refine ⟨fun σ' H' => ∃ ρ h G, SI X.K c ρ h σ' H' G ∧ PstS X.K X.mg W c D (whileN cd b m ρ h), fun σ' H' z => ⟨m, Nat.lt_succ_self m, z⟩, c, ρ, h', G', I', ?_⟩
        unfold PstS RunS
        cases e3 : b ρ h' with
        | stuck => rw [e3] at q; exact False.elim q
        | err y ρ2 h2 => rw [e3] at q; exact q
        | ok fl ρ2 h2 =>
          rw [e3] at q
          cases fl with
          | next => exact fun σ2 H2 G2 K2 => ⟨ρ2, h2, G2, K2, q⟩
          | cont => exact fun σ2 H2 G2 K2 => ⟨ρ2, h2, G2, K2, q⟩
          | brk => exact q
          | ret z => exact q
end

/-! ### comprehensions -/
def wipeE (ρ : En) : List Nat → En
  | [] => ρ
  | v :: vs => (wipeE ρ vs).set v none
def compL (g : TM) (t : EM Bool) (e : EM D) (ρ : En) : List D → Hand → RE (List D)
  | [], h => .ok [] h
  | d :: ds, h => match g d ρ with
    | none => .stuck
    | some ρ1 => match t ρ1 h with
      | .ok false h1 => compL g t e ρ ds h1
      | .ok true h1 => match e ρ1 h1 with
        | .ok y h2 => (compL g t e ρ ds h2).bind fun ys h3 => .ok (y :: ys) h3
        | _ => .stuck
      | _ => .stuck
def compM (f : EM (List D)) (g : TM) (vs : List Nat) (t : EM Bool) (e : EM D) : EM D := bindM f fun ds ρ h => if ds.length ≤ sizeLine then (compL g t e (wipeE ρ vs) ds h).bind fun ys h' => .ok (.lst ys) h' else .stuck
section
variable {K : PySem.W.Frag} {c : C} {ρ : En} {h : Hand} {σ : L2.St} {H G : Hp}
theorem SI.unset (I : SI K c ρ h σ H G) (i : Nat) : SI K c (ρ.set i none) h (σ.set i none) H G := by
  refine ⟨I.sub, I.ntG, I.g0, I.h0, I.d0, I.new, I.hnd, I.hag, I.h0a, by rw [List.length_set, List.length_set]; exact I.len, fun j e q => ?_, fun j ds q => ?_, fun j k dj dk a q1 q2 q3 q4 => ?_, I.tab⟩
  · rcases getElem?_set_cases q with ⟨_, e1⟩ | ⟨n, q⟩
    · cases e1
    · obtain ⟨w, e1, e2⟩ := I.val j e q
      exact ⟨w, by rw [List.getElem?_set_ne n]; exact e1, e2⟩
  · rcases getElem?_set_cases q with ⟨_, e1⟩ | ⟨n, q⟩
    · cases e1
    · obtain ⟨a, vs, e1, e2⟩ := I.own j ds q
      exact ⟨a, vs, by rw [List.getElem?_set_ne n]; exact e1, e2⟩
  · rcases getElem?_set_cases q1 with ⟨_, e1⟩ | ⟨n1, q1⟩
    · cases e1
    · rcases getElem?_set_cases q2 with ⟨_, e1⟩ | ⟨n2, q2⟩
      · cases e1
      · rw [List.getElem?_set_ne n1] at q3
        rw [List.getElem?_set_ne n2] at q4
        exact I.apart j k dj dk a q1 q2 q3 q4
theorem SI.wipe (I : SI K c ρ h σ H G) : ∀ vs : List Nat, SI K c (wipeE ρ vs) h (L2.wipe σ vs) H G
  | [] => I
  | v :: vs => (SI.wipe I vs).unset v
theorem wipe_out2 {σ : L2.St} {i : Nat} : ∀ {vs : List Nat}, i ∉ vs → (L2.wipe σ vs)[i]? = σ[i]?
  | [], _ => rfl
  | v :: vs, h => by
    show ((L2.wipe σ vs).set v none)[i]? = _
    rw [List.getElem?_set_ne fun z => h (by simp [z])]
    exact wipe_out2 fun z => h (List.mem_cons_of_mem _ z)
theorem wipe_in {σ : L2.St} {i : Nat} : ∀ {vs : List Nat}, i ∈ vs → i < σ.length → (L2.wipe σ vs)[i]? = some none
  | v :: vs, h, hl => by
    show ((L2.wipe σ vs).set v none)[i]? = _
    by_cases e : v = i
    · subst e
      rw [List.getElem?_set_self (by rw [L2.wipe_length]; exact hl)]
    · rw [List.getElem?_set_ne e]
      rcases List.mem_cons.mp h with z | z
      · exact absurd z.symm e
      · exact wipe_in z hl
theorem wipe_agree {ts vs : List Nat} {σ σ' : L2.St} (a : Agree ts (L2.wipe σ vs) σ') (hs : ∀ i ∈ ts, i ∈ vs) : L2.wipe σ' vs = L2.wipe σ vs := by
  apply List.ext_getElem?
  intro i
  have hl : σ'.length = σ.length := a.1.trans (L2.wipe_length σ vs)
  by_cases hi : i ∈ vs
  · by_cases hl2 : i < σ.length
    · rw [wipe_in hi hl2, wipe_in hi (by rw [hl]; exact hl2)]
    · rw [List.getElem?_eq_none (by rw [L2.wipe_length, hl]; omega), List.getElem?_eq_none (by rw [L2.wipe_length]; omega)]
  · rw [wipe_out2 hi, a.2 i (fun z => hi (hs i z))]
/-- a loose list of ours is written -/
theorem SI.loose {p : Addr} {o o' : List V} (I : SI K c ρ h σ H G) (hp : H p = some (.lst o)) (hu : Unowned ρ σ p) (hG : G p = none) (h0 : c.H0 p = none) : SI K c ρ h σ (upd H p (.lst o')) G := by
  have nha : c.ha.a ≠ p := fun z => I.h0a (by rw [z]; exact h0)
  have ne : ∀ a, a ≠ p → upd H p (.lst o') a = H a := fun a n => upd_ne n
  refine ⟨fun a o z => by rw [ne a (ne_of_none z hG)]; exact I.sub a o z, I.ntG, I.g0, fun a o n t z => by rw [ne a (ne_of_none z h0)]; exact I.h0 a o n t z, fun a z => ?_, I.new, ?_, I.hag, I.h0a, I.len, I.val, fun i ds q => ?_, I.apart, tabs_upd I.tab hp⟩
  · rw [ne a fun y => z (by rw [y]; exact h0)]
    exact I.d0 a z
  · obtain ⟨ca, e1, e2⟩ := I.hnd
    exact ⟨ca, by rw [ne _ nha]; exact e1, e2⟩
  · obtain ⟨a, vs, e1, e2, e3, e4, e5⟩ := I.own i ds q
    refine ⟨a, vs, e1, ?_, e3, e4, e5⟩
    rw [ne a fun z => ?_]
    · exact e2
    · rw [z] at e1
      exact hu i ds q e1
end
section
variable {X : Cx} {W : WXd}
abbrev W0 : WXd := fun _ _ _ _ => False
/-- what a comprehension's turn asks, from its readings -/
theorem comp_run {f : EM (List D)} {g : TM} {t : EM Bool} {e : EM D} {tg : TG} {ts vs : List Nat} {σ0 : L2.St} {H0 : Hp} {Q : VK} (ht : TgtR X.K tg g ts) (hsub : ∀ i ∈ ts, i ∈ vs) (h : tE X.K X.mg W .L (compM f g vs t e) σ0 H0 Q) :
    tLc (tI X.K X.mg W f) tg (tT X.K X.mg W0 t) (tE X.K X.mg W0 .E e) vs σ0 H0 Q := by
  obtain ⟨c, ρ, h0, G0, I0, q⟩ := h
  refine ⟨c, ρ, h0, G0, I0, Pst.bind q bE fun h1 ds J H1 G1 I1 E1 o q1 => fun Dl hD => ?_⟩
  by_cases hsz : ds.length ≤ sizeLine
  case neg => exact False.elim (by
    have q1 : Pst X.K X.mg W (relK .L X.K) c ρ σ0 H1 G1 Q (if ds.length ≤ sizeLine then (compL g t e (wipeE ρ vs) ds h1).bind fun ys h' => .ok (.lst ys) h' else .stuck) := q1
    rw [if_neg hsz] at q1
    exact q1)
  have q2 : Pst X.K X.mg W (relK .L X.K) c ρ σ0 H1 G1 Q ((compL g t e (wipeE ρ vs) ds h1).bind fun ys h' => .ok (.lst ys) h') := by
    have q1 : Pst X.K X.mg W (relK .L X.K) c ρ σ0 H1 G1 Q (if ds.length ≤ sizeLine then (compL g t e (wipeE ρ vs) ds h1).bind fun ys h' => .ok (.lst ys) h' else .stuck) := q1
    rw [if_pos hsz] at q1
    exact q1
  have h0D : c.H0 Dl = none := I1.fresh0 hD
  have hGD : G1 Dl = none := I1.freshG hD
  have huD := I1.unowned hD
  have nha : Dl ≠ c.ha.a := fun z => I1.ha_some (by rw [← z]; exact hD)
  refine ⟨fun i m H => ∃ h G acc avs, SI X.K c ρ h σ0 H G ∧ Ext c.ha H1 G1 H G ∧ H Dl = some (.lst avs) ∧ G Dl = none ∧ Rps X.K c.ha G acc avs ∧ m = ds.length - i ∧ i ≤ ds.length ∧ acc.length ≤ i ∧
      Pst X.K X.mg W (relK .L X.K) c ρ σ0 H1 G1 Q ((compL g t e (wipeE ρ vs) (ds.drop i) h).bind fun ys h' => .ok (.lst (acc ++ ys)) h'), ?_, ?_⟩
  · have n := New.loose (o := .lst []) I1.sub I1.ntG hD
    exact ⟨ds.length, h1, G1, [], [], I1.nw n, n.ext, upd_same, hGD, .nil, rfl, Nat.zero_le _, Nat.le_refl _, q2⟩
  rintro i m H ⟨h, G, acc, avs, I, E, eD, gD, ra, rfl, hi, hal, q⟩
  by_cases hlt : i < ds.length
  · refine .inr ⟨o.go i H G E.le I.sub hlt, fun H' => ∃ m', m' < ds.length - i ∧ ∃ h G acc avs, SI X.K c ρ h σ0 H' G ∧ Ext c.ha H1 G1 H' G ∧ H' Dl = some (.lst avs) ∧ G Dl = none ∧ Rps X.K c.ha G acc avs ∧ m' = ds.length - (i + 1) ∧ i + 1 ≤ ds.length ∧ acc.length ≤ i + 1 ∧
      Pst X.K X.mg W (relK .L X.K) c ρ σ0 H1 G1 Q ((compL g t e (wipeE ρ vs) (ds.drop (i + 1)) h).bind fun ys h' => .ok (.lst (acc ++ ys)) h'), fun _ z => z, fun x H' y => ?_⟩
    obtain ⟨G', d, e1, n, rd⟩ := o.yld i H G x H' E.le I.sub I.ntG hlt y
    have I' := I.nw n
    have E' : Ext c.ha H1 G1 H' G' := E.trans n.ext
    have eD' : H' Dl = some (.lst avs) := n.hh _ _ eD
    have gD' : G' Dl = none := by
      cases z : G' Dl with
      | none => rfl
      | some u =>
        rcases n.new Dl (by rw [z]; simp) with z | z
        · exact absurd gD z
        · rw [eD] at z; cases z
    have ed : ds.drop i = d :: ds.drop (i + 1) := by
      obtain ⟨hl, e2⟩ := List.getElem?_eq_some_iff.mp e1
      rw [List.drop_eq_getElem_cons hl, e2]
    rw [ed] at q
    unfold compL at q
    cases e2 : g d (wipeE ρ vs) with
    | none => rw [e2] at q; exact False.elim q
    | some ρ1 =>
      rw [e2] at q
      dsimp only at q
      refine ht c (wipeE ρ vs) h (L2.wipe σ0 vs) H' G' d x ρ1 _ (I'.wipe vs) rd e2 fun σ1 J1 ag => ⟨wipe_agree ag hsub, c, ρ1, h, G', J1, ?_⟩
      unfold Pst
      cases e3 : t ρ1 h with
      | stuck => rw [e3] at q; exact False.elim q
      | err y h2 => rw [e3] at q; exact False.elim q
      | ok bt h2 =>
        rw [e3] at q
        intro bv H2 G2 K2 E2 eb
        subst eb
        -- the outer state, carried on
        have carry : ∀ {h2 : Hand} {H2 G2 : Hp}, SI X.K c ρ1 h2 σ1 H2 G2 → Ext c.ha H' G' H2 G2 → SI X.K c ρ h2 σ0 H2 G2 := fun K2 E2 => I'.call E2 K2.entry
        have eD2 : H2 Dl = some (.lst avs) := E2.keep _ _ nha nt_lst eD'
        have out : ∀ {H2 G2 : Hp}, Ext c.ha H' G' H2 G2 → G2 Dl = none := fun {H2 G2} E2 => by
          cases z : G2 Dl with
          | none => rfl
          | some u =>
            rcases E2.new Dl (by rw [z]; simp) with z | z
            · exact absurd gD' z
            · rw [eD'] at z; cases z
        cases bt with
        | false =>
          rw [if_neg Bool.false_ne_true]
          exact ⟨_, by omega, h2, G2, acc, avs, carry K2 E2, E'.trans E2, eD2, out E2, ra.le (n.gg.trans E2.le), rfl, hlt, by omega, q⟩
        | true =>
          rw [if_pos rfl]
          refine ⟨c, ρ1, h2, G2, K2, ?_⟩
          unfold Pst
          dsimp only at q
          cases e4 : e ρ1 h2 with
          | stuck => rw [e4] at q; exact False.elim q
          | err y h3 => rw [e4] at q; exact False.elim q
          | ok z h3 =>
            rw [e4] at q
            dsimp only at q
            intro v H3 G3 K3 E3 rz
            have E23 := E2.trans E3
            have eD3 : H3 Dl = some (.lst avs) := E3.keep _ _ nha nt_lst eD2
            have gD3 := out E23
            have I3 := carry K3 E23
            have leG := n.gg.trans E23.le
            refine ⟨avs, eD3, ?_, _, by omega, h3, G3, acc ++ [z], avs ++ [v], I3.loose eD3 huD gD3 h0D, ?_, upd_same, gD3, (ra.le leG).append (.cons rz .nil), rfl, hlt, by rw [List.length_append]; simpa using hal, ?_⟩
            · rw [← ra.length]; omega
            · have E13 := E'.trans E23
              exact ⟨fun a u n t q => by rw [upd_ne (ne_of_none q hD)]; exact E13.keep a u n t q, fun a q => by rw [upd_ne fun z => q (by rw [z]; exact hD)]; exact E13.dom a q, E13.le, E13.new⟩
            · have eq : ((compL g t e (wipeE ρ vs) (ds.drop (i + 1)) h3).bind fun ys h' => RE.ok (z :: ys) h').bind (fun ys h' => RE.ok (D.lst (acc ++ ys)) h') = (compL g t e (wipeE ρ vs) (ds.drop (i + 1)) h3).bind fun ys h' => RE.ok (D.lst (acc ++ [z] ++ ys)) h' := by
                cases compL g t e (wipeE ρ vs) (ds.drop (i + 1)) h3 with
                | ok ys h4 =>
                  show RE.ok (D.lst (acc ++ z :: ys)) h4 = RE.ok (D.lst (acc ++ [z] ++ ys)) h4
                  rw [List.append_assoc]
                  rfl
                | err => rfl
                | stuck => rfl
              rw [eq] at q
              exact q
  · have hi' : i = ds.length := by omega
    refine .inl ⟨o.stop i H G E.le I.sub (by omega), ?_⟩
    rw [List.drop_eq_nil_of_le (by omega)] at q
    have q' : ∀ v H' G', SI X.K c ρ h σ0 H' G' → Ext c.ha H1 G1 H' G' → relK .L X.K c.ha H1 H' G' (.lst (acc ++ [])) v → Q v H' := q
    rw [List.append_nil] at q'
    exact q' _ H G I E ⟨Dl, avs, acc, rfl, rfl, hD, eD, gD, ra⟩
/-- [elt for target in iter if ..] -/
theorem e_lc {elt tg iter : Expr} {ifs : List Expr} {scope : Scope} {own : List (Str × Nat)} {pos : Pos} {f : EM (List D)} {g : TM} {t : TG} {ts : List Nat} {ft : EM Bool} {fe : EM D} (hc : X.calm = true) (hN : X.N.Nodup) (hi : DI X W tg iter f) (ok : BlkOk X.N X.env.scope scope own)
    (hg : ∀ (s : Shared) (H : Hp) (C : Addr) (cl : List (Str × Addr)) (fp : List Addr), PG (X.blk s H scope (compEnvC scope cl C X.env) fp) tg t) (htr : TgtR X.K t g ts)
    (htt : ∀ (s : Shared) (H : Hp) (C : Addr) (cl : List (Str × Addr)) (fp : List Addr), PTs (X.blk s H scope (compEnvC scope cl C X.env) fp) ifs (tT X.K X.mg W0 ft))
    (he : ∀ (s : Shared) (H : Hp) (C : Addr) (cl : List (Str × Addr)) (fp : List Addr), DE (X.blk s H scope (compEnvC scope cl C X.env) fp) W0 .E elt fe) (hsub : ∀ i ∈ ts, i ∈ own.map (·.2)) (hs : ∀ x, foldedSetIterable iter X.env x = pure x := by intro _; rfl) :
    DE X W .L (.ListComp elt [⟨tg, iter, ifs, 0⟩] scope pos) (compM f g (own.map (·.2)) ft fe) := PE.imp (pe_lc hc hN hi ok hg htt he hs) fun _ _ _ h => comp_run htr hsub h
theorem PTs.imp {X : Cx} {es : List Expr} {t t' : TT} (h : PTs X es t) (i : ∀ σ H Q, t' σ H Q → t σ H Q) : PTs X es t' := ⟨fun pins s σ H Q I q => h.run pins s σ H Q I (i σ H Q q)⟩
theorem ts_nil {X : Cx} {W : WXd} : PTs X [] (tT X.K X.mg W (pureM true)) := PTs.imp pts_nil fun σ H Q ⟨c, ρ, h, G, I, q⟩ => q true H G I (Ext.refl _ _ _) rfl
theorem ts_one {X : Cx} {W : WXd} {e : Expr} {f : EM Bool} (h : DT X W e f) : PTs X [e] (tT X.K X.mg W f) := pts_one h
/-- name = [..] -/
theorem s_setLc {i : Nat} {y : Str} {py : Pos} {elt tg iter : Expr} {ifs : List Expr} {scope : Scope} {own : List (Str × Nat)} {pos spos : Pos} {f : EM (List D)} {g : TM} {t : TG} {ts : List Nat} {ft : EM Bool} {fe : EM D} (hc : X.calm = true) (hN : X.N.Nodup) (hy : X.N[i]? = some y) (hyl : X.env.scope.names.lookup y = some .local)
    (hsw : swapsWith (.ListComp elt [⟨tg, iter, ifs, 0⟩] scope pos) (some (.Name y py)) spos.line X.env = pure true) (hi : DI X W tg iter f) (ok : BlkOk X.N X.env.scope scope own)
    (hg : ∀ (s : Shared) (H : Hp) (C : Addr) (cl : List (Str × Addr)) (fp : List Addr), PG (X.blk s H scope (compEnvC scope cl C X.env) fp) tg t) (htr : TgtR X.K t g ts)
    (htt : ∀ (s : Shared) (H : Hp) (C : Addr) (cl : List (Str × Addr)) (fp : List Addr), PTs (X.blk s H scope (compEnvC scope cl C X.env) fp) ifs (tT X.K X.mg W0 ft))
    (he : ∀ (s : Shared) (H : Hp) (C : Addr) (cl : List (Str × Addr)) (fp : List Addr), DE (X.blk s H scope (compEnvC scope cl C X.env) fp) W0 .E elt fe) (hsub : ∀ i ∈ ts, i ∈ own.map (·.2)) (hs : ∀ x, foldedSetIterable iter X.env x = pure x := by intro _; rfl) :
    DS X W (.Assign [.Name y py] (.ListComp elt [⟨tg, iter, ifs, 0⟩] scope pos) spos) (setLS i (compM f g (own.map (·.2)) ft fe)) :=
  PS.imp (ps_setLc hc hN hy hyl hsw hi ok hg htt he hs) fun D σ H ⟨c, ρ, h, G, I, q⟩ => comp_run (Q := fun x H1 => gName i x σ H1 D.nx) htr hsub ⟨c, ρ, h, G, I, Pst.of q fun d h' v H' G' q I' E' r' => by
    obtain ⟨ds, rfl, I2⟩ := own_of_L I I' r' i
    exact q _ H' G' I2⟩
end
end DL

set_option Elab.async false
set_option linter.all false
set_option maxRecDepth 100000
set_option maxHeartbeats 4000000
namespace DL
open PySem PySem.Spec PyProof.Rows L2

/-! ### slices -/
def cutD {α : Type} (xs : List α) (lo hi : Option Int) : List α := (xs.drop (HT.sIx xs.length 0 lo)).take (HT.sIx xs.length xs.length hi - HT.sIx xs.length 0 lo)
def sliceD (d : D) (lo hi : Option Int) : Option D := match d with
  | .str l => if l.length ≤ sizeLine then some (.str (cutD l lo hi)) else none
  | .tup ds => some (.tup (cutD ds lo hi))
  | _ => none
def partM (f : Option (EM D)) : EM (Option Int) := match f with
  | none => pureM none
  | some f => bindM f fun d => lift (match d with | .int i => some (some i) | _ => none)
def tO (K : PySem.W.Frag) (mg : Str → Option Value) (W : WXd) (f : EM (Option Int)) : TO := tG K mg W (fun _ _ _ _ a b => a = b) f
abbrev DO (X : Cx) (W : WXd) (e : Option Expr) (f : EM (Option Int)) : Prop := PO X e (tO X.K X.mg W f)
theorem PO.imp {X : Cx} {e : Option Expr} {t t' : TO} (h : PO X e t) (i : ∀ σ H Q, t' σ H Q → t σ H Q) : PO X e t' := ⟨fun pins s σ H Q I q => h.run pins s σ H Q I (i σ H Q q)⟩
theorem bO : ∀ (ha : HA) (Hs G0 H1 G1 H' G' : Hp) (d v : Option Int), Ext ha Hs G0 H1 G1 → d = v → d = v := fun _ _ _ _ _ _ _ _ _ _ r => r
theorem Rps.cut {K : PySem.W.Frag} {ha : HA} {G : Hp} {ds : List D} {vs : List V} (r : Rps K ha G ds vs) (lo hi : Option Int) : Rps K ha G (cutD ds lo hi) (cutV vs lo hi) := by
  unfold cutD cutV
  rw [r.length]
  exact (r.drop _).take _
section
variable {X : Cx} {W : WXd}
theorem o_none : DO X W none (partM none) := PO.imp po_none fun σ H Q ⟨c, ρ, h, G, I, q⟩ => q none H G I (Ext.refl _ _ _) rfl
theorem o_some {e : Expr} {f : EM D} (he : DE X W .E e f) : DO X W (some e) (partM (some f)) := PO.imp (po_some he) fun σ H Q ⟨c, ρ, h, G, I, q⟩ => ⟨c, ρ, h, G, I, Pst.bind q bO fun h1 d v H1 G1 I1 E1 r1 q1 => by
  obtain ⟨z, e, q2⟩ := Pst.lift q1
  cases d with
  | int i =>
    cases (show Rp X.K c.ha G1 (.int i) v from r1)
    have e' : some i = z := Option.some.inj e
    subst e'
    exact ⟨i, rfl, q2 _ H1 G1 I1 (Ext.refl _ _ _) rfl⟩
  | _ => cases e⟩
def sliceM (f : EM D) (fl fh : EM (Option Int)) : EM D := bindM f fun d => bindM fl fun lo => bindM fh fun hi => lift (sliceD d lo hi)
theorem e_slice {e : Expr} {lo hi : Option Expr} {f : EM D} {fl fh : EM (Option Int)} {p2 pos : Pos} (he : DE X W .E e f) (hl : DO X W lo fl) (hh : DO X W hi fh) : DE X W .E (.Subscript e (.Slice lo hi none p2) pos) (sliceM f fl fh) :=
  PE.imp (pe_slice (sl_str.or sl_tupA) he hl hh) fun σ H Q ⟨c, ρ, h, G, I, q⟩ => ⟨c, ρ, h, G, I, Pst.bind q bE fun h1 d v H1 G1 I1 E1 r1 q1 => ⟨c, ρ, h1, G1, I1, Pst.bind q1 bE fun h2 lo l2 H2 G2 I2 E2 r2 q2 => ⟨c, ρ, h2, G2, I2, Pst.bind q2 bE fun h3 hi l3 H3 G3 I3 E3 r3 q3 => by
    subst r2
    subst r3
    obtain ⟨z, e, q4⟩ := Pst.lift q3
    have rd : Rp X.K c.ha G3 d v := (Rp.le E2.le r1).le E3.le
    cases d with
    | str l =>
      obtain ⟨hl, rfl⟩ := if_some e
      cases rd
      refine .inl ⟨_, rfl, by simpa [Str.length] using hl, ?_⟩
      have ec : cutS ⟨l.toArray⟩ lo hi = ⟨(cutD l lo hi).toArray⟩ := by simp [cutS, cutD, Str.length]
      rw [ec]
      exact q4 _ H3 G3 I3 (Ext.refl _ _ _) (.str _)
    | tup ds =>
      cases e
      cases rd with
      | tup hs rr =>
        rename_i a vs
        refine .inr ⟨a, vs, rfl, Le.t I3.sub hs, fun w => ?_, fun w p hp => ?_⟩
        · have ew : cutD ds lo hi = ds := by
            unfold cutD
            rw [rr.length, w.1, w.2, List.drop_zero, Nat.sub_zero]
            exact List.take_of_length_le (Nat.le_of_eq rr.length)
          rw [ew] at q4
          exact q4 _ H3 G3 I3 (Ext.refl _ _ _) (.tup hs rr)
        · have n := New.one (o := .tup (cutV vs lo hi)) I3.sub I3.ntG hp nt_tup
          exact q4 _ _ _ (I3.nw n) n.ext (.tup (.inl (.inl upd_same)) ((rr.cut lo hi).le n.gg))
    | _ => cases e⟩⟩⟩

/-! ### builtins by name -/
def CallD (K : PySem.W.Frag) (r : List V → Hp → VK → Prop) (p : List D → Option D) : Prop := ∀ (ha : HA) (H G : Hp) (ds : List D) (vs : List V) (z : D) (Q : VK), p ds = some z → Le G H → (∀ a o, G a = some o → nt o) → Rvs K ha H G ds vs →
  (∀ u H' G', New H G H' G' → Rp K ha G' z u → Q u H') → r vs H Q
def CallLs (K : PySem.W.Frag) (r : List V → Hp → VK → Prop) (p : List D → Option D) : Prop := ∀ (ha : HA) (H G : Hp) (ds : List D) (vs : List V) (z : D) (Q : VK), p ds = some z → Le G H → Rvs K ha H G ds vs →
  (∀ q ws es, H q = none → z = .lst es → Rps K ha G es ws → Q (.ref q) (upd H q (.lst ws))) → r vs H Q
section
variable {x : Str} {T id : String} {e : Expr} {es : List Expr} {g : EM (List D)} {p pos : Pos} {r : List V → Hp → VK → Prop} {pf : List D → Option D}
theorem callD_run (hp : CallD X.K r pf) {σ : L2.St} {H : Hp} {Q : VK} (h : tE X.K X.mg W .E (mapM1 g pf) σ H Q) : tCB r (tAV X.K X.mg W g) σ H Q := by
  obtain ⟨c, ρ, h, G, I, q⟩ := h
  refine ⟨c, ρ, h, G, I, Pst.bind q bE fun h1 ds vs H1 G1 I1 E1 r1 q1 => ?_⟩
  obtain ⟨z, e, q2⟩ := Pst.lift q1
  exact hp c.ha H1 G1 ds vs z Q e I1.sub I1.ntG r1 fun u H' G' n ru => q2 u H' G' (I1.nw n) n.ext ru
theorem callL_run (hp : CallLs X.K r pf) {σ : L2.St} {H : Hp} {Q : VK} (h : tE X.K X.mg W .L (mapM1 g pf) σ H Q) : tCB r (tAV X.K X.mg W g) σ H Q := by
  obtain ⟨c, ρ, h, G, I, q⟩ := h
  refine ⟨c, ρ, h, G, I, Pst.bind q bE fun h1 ds vs H1 G1 I1 E1 r1 q1 => ?_⟩
  obtain ⟨z, e, q2⟩ := Pst.lift q1
  refine hp c.ha H1 G1 ds vs z Q e I1.sub r1 fun q ws es hq ez rw => ?_
  subst ez
  have n := New.loose (o := .lst ws) I1.sub I1.ntG hq
  exact q2 _ _ _ (I1.nw n) n.ext ⟨q, ws, es, rfl, rfl, hq, upd_same, I1.freshG hq, rw⟩
theorem e_cb (hc : CallR X (.builtin id) r) (hp : CallD X.K r pf) (hg : Gl X x) (hm : X.mg x = none) (hv : bootBuiltins x = some (.builtin id)) (ha : DV X W (e :: es) g) (hn : x ≠ "__name__" := by decide) (hdb : (x == ("__debug__" : Str)) = false := by decide)
    (he : starEach (e :: es) X.env = (false, eval e X.env) :: starEach es X.env := by rfl) (hpl : (backTo pos (starEach es X.env)).any (·.1) = false := by rfl) : DE X W .E (.Call (.Name x p) (e :: es) [] pos) (mapM1 g pf) := PE.imp (pe_callB hc hg hm hv ha hn hdb he hpl) fun _ _ _ => callD_run hp
theorem e_cbT (hc : CallR X (.type T) r) (hp : CallD X.K r pf) (hg : Gl X x) (hm : X.mg x = none) (hv : bootBuiltins x = some (.type T)) (ha : DV X W (e :: es) g) (hn : x ≠ "__name__" := by decide) (hdb : (x == ("__debug__" : Str)) = false := by decide)
    (he : starEach (e :: es) X.env = (false, eval e X.env) :: starEach es X.env := by rfl) (hpl : (backTo pos (starEach es X.env)).any (·.1) = false := by rfl) : DE X W .E (.Call (.Name x p) (e :: es) [] pos) (mapM1 g pf) := PE.imp (pe_callTy hc hg hm hv ha hn hdb he hpl) fun _ _ _ => callD_run hp
theorem e_cbL (hc : CallR X (.builtin id) r) (hp : CallLs X.K r pf) (hg : Gl X x) (hm : X.mg x = none) (hv : bootBuiltins x = some (.builtin id)) (ha : DV X W (e :: es) g) (hn : x ≠ "__name__" := by decide) (hdb : (x == ("__debug__" : Str)) = false := by decide)
    (he : starEach (e :: es) X.env = (false, eval e X.env) :: starEach es X.env := by rfl) (hpl : (backTo pos (starEach es X.env)).any (·.1) = false := by rfl) : DE X W .L (.Call (.Name x p) (e :: es) [] pos) (mapM1 g pf) := PE.imp (pe_callB hc hg hm hv ha hn hdb he hpl) fun _ _ _ => callL_run hp
theorem e_cbTL (hc : CallR X (.type T) r) (hp : CallLs X.K r pf) (hg : Gl X x) (hm : X.mg x = none) (hv : bootBuiltins x = some (.type T)) (ha : DV X W (e :: es) g) (hn : x ≠ "__name__" := by decide) (hdb : (x == ("__debug__" : Str)) = false := by decide)
    (he : starEach (e :: es) X.env = (false, eval e X.env) :: starEach es X.env := by rfl) (hpl : (backTo pos (starEach es X.env)).any (·.1) = false := by rfl) : DE X W .L (.Call (.Name x p) (e :: es) [] pos) (mapM1 g pf) := PE.imp (pe_callTy hc hg hm hv ha hn hdb he hpl) fun _ _ _ => callL_run hp
end
end
section
variable {K : PySem.W.Frag} {ha : HA} {H G : Hp}
theorem rvs1 {d : D} {vs : List V} (r : Rvs K ha H G [d] vs) : ∃ v, vs = [v] ∧ relK .V K ha H H G d v := by
  cases r with
  | cons r rr => cases rr; exact ⟨_, rfl, r⟩
theorem rvs2 {d e : D} {vs : List V} (r : Rvs K ha H G [d, e] vs) : ∃ v w, vs = [v, w] ∧ relK .V K ha H H G d v ∧ relK .V K ha H H G e w := by
  cases r with
  | cons r rr =>
    cases rr with
    | cons r2 rr => cases rr; exact ⟨_, _, rfl, r, r2⟩
def lenD : List D → Option D
  | [.str l] => if l.length ≤ sizeLine then some (.int l.length) else none
  | [.tup ds] => some (.int ds.length)
  | [.lst ds] => some (.int ds.length)
  | _ => none
theorem len_ok : CallD K (fun xs H Q => ∃ x n, xs = [x] ∧ LenV K x H n ∧ Q (.int n) H) lenD := by
  intro ha H G ds vs z Q e le ng r q
  unfold lenD at e
  split at e
  · obtain ⟨v, rfl, r1⟩ := rvs1 r
    obtain ⟨hl, rfl⟩ := if_some e
    rw [rv_str r1]
    exact ⟨_, _, rfl, ⟨by simpa [Str.length] using hl, rfl⟩, by simpa [Str.length] using q _ H G (New.refl le ng) (.int _)⟩
  · obtain ⟨v, rfl, r1⟩ := rvs1 r
    cases e
    obtain ⟨a, ws, rfl, h, rr⟩ := rv_tup r1
    exact ⟨_, _, rfl, .inr ⟨ws, le.t h, rfl⟩, by rw [← rr.length]; exact q _ H G (New.refl le ng) (.int _)⟩
  · obtain ⟨v, rfl, r1⟩ := rvs1 r
    cases e
    obtain ⟨a, ws, rfl, h, rr⟩ := rv_lst r1 le
    exact ⟨_, _, rfl, .inl ⟨ws, .of h, rfl⟩, by rw [← rr.length]; exact q _ H G (New.refl le ng) (.int _)⟩
  · cases e
def absD : List D → Option D
  | [.int i] => some (.int (if i < 0 then -i else i))
  | _ => none
theorem abs_ok : CallD K (fun xs H Q => ∃ i, xs = [.int i] ∧ Q (.int (if i < 0 then -i else i)) H) absD := by
  intro ha H G ds vs z Q e le ng r q
  unfold absD at e
  split at e
  · obtain ⟨v, rfl, r1⟩ := rvs1 r
    cases e
    rw [rv_int r1]
    exact ⟨_, rfl, q _ H G (New.refl le ng) (.int _)⟩
  · cases e
def intD : List D → Option D
  | [.int i] => some (.int i)
  | [.bl b] => some (.int (if b then 1 else 0))
  | _ => none
theorem int_ok : CallD K (fun xs H Q => (∃ i, xs = [.int i] ∧ Q (.int i) H) ∨ ∃ k, xs = [.bl k] ∧ Q (.int (if k then 1 else 0)) H) intD := by
  intro ha H G ds vs z Q e le ng r q
  unfold intD at e
  split at e
  · obtain ⟨v, rfl, r1⟩ := rvs1 r
    cases e
    rw [rv_int r1]
    exact .inl ⟨_, rfl, q _ H G (New.refl le ng) (.int _)⟩
  · obtain ⟨v, rfl, r1⟩ := rvs1 r
    cases e
    rw [rv_bl r1]
    exact .inr ⟨_, rfl, q _ H G (New.refl le ng) (.int _)⟩
  · cases e
def min2D : List D → Option D
  | [.int i, .int j] => some (.int (if j < i then j else i))
  | _ => none
def max2D : List D → Option D
  | [.int i, .int j] => some (.int (if j > i then j else i))
  | _ => none
theorem min2_ok : CallD K (fun xs H Q => ∃ i j, xs = [.int i, .int j] ∧ Q (.int (if j < i then j else i)) H) min2D := by
  intro ha H G ds vs z Q e le ng r q
  unfold min2D at e
  split at e
  · obtain ⟨v, w, rfl, r1, r2⟩ := rvs2 r
    cases e
    rw [rv_int r1, rv_int r2]
    exact ⟨_, _, rfl, q _ H G (New.refl le ng) (.int _)⟩
  · cases e
theorem max2_ok : CallD K (fun xs H Q => ∃ i j, xs = [.int i, .int j] ∧ Q (.int (if j > i then j else i)) H) max2D := by
  intro ha H G ds vs z Q e le ng r q
  unfold max2D at e
  split at e
  · obtain ⟨v, w, rfl, r1, r2⟩ := rvs2 r
    cases e
    rw [rv_int r1, rv_int r2]
    exact ⟨_, _, rfl, q _ H G (New.refl le ng) (.int _)⟩
  · cases e
/-- the truth values of a list of bools -/
def blsD : List D → Option (List Bool)
  | [] => some []
  | .bl b :: ds => (blsD ds).map (b :: ·)
  | _ => none
theorem bls_rps : ∀ {ds : List D} {vs : List V} {bs : List Bool}, blsD ds = some bs → Rps K ha G ds vs → vs = bs.map V.bl
  | [], vs, bs, e, r => by
    cases r
    cases e
    rfl
  | .bl b :: ds, _ :: vs, bs, e, .cons h r => by
    cases h
    cases e1 : blsD ds with
    | none =>
      have e : (blsD ds).map (b :: ·) = some bs := e
      rw [e1] at e; cases e
    | some cs =>
      have e : (blsD ds).map (b :: ·) = some bs := e
      rw [e1] at e
      cases e
      rw [bls_rps e1 r]
      rfl
def allD : List D → Option D
  | [.lst ds] => (blsD ds).map fun bs => .bl (bs.all id)
  | _ => none
def anyD : List D → Option D
  | [.lst ds] => (blsD ds).map fun bs => .bl (bs.any id)
  | _ => none
theorem all_ok : CallD K (rAll K) allD := by
  intro ha H G ds vs z Q e le ng r q
  unfold allD at e
  split at e
  · rename_i ds
    obtain ⟨v, rfl, r1⟩ := rvs1 r
    obtain ⟨a, ws, rfl, h, rr⟩ := rv_lst r1 le
    cases e1 : blsD ds with
    | none => rw [e1] at e; cases e
    | some bs =>
      rw [e1] at e
      cases e
      rw [bls_rps e1 rr] at h
      exact ⟨a, bs, rfl, .of h, q _ H G (New.refl le ng) (.bl _)⟩
  · cases e
theorem any_ok : CallD K (rAny K) anyD := by
  intro ha H G ds vs z Q e le ng r q
  unfold anyD at e
  split at e
  · rename_i ds
    obtain ⟨v, rfl, r1⟩ := rvs1 r
    obtain ⟨a, ws, rfl, h, rr⟩ := rv_lst r1 le
    cases e1 : blsD ds with
    | none => rw [e1] at e; cases e
    | some bs =>
      rw [e1] at e
      cases e
      rw [bls_rps e1 rr] at h
      exact ⟨a, bs, rfl, .of h, q _ H G (New.refl le ng) (.bl _)⟩
  · cases e
def intsD : List D → Option (List Int)
  | [] => some []
  | .int b :: ds => (intsD ds).map (b :: ·)
  | _ => none
theorem ints_rps : ∀ {ds : List D} {vs : List V} {bs : List Int}, intsD ds = some bs → Rps K ha G ds vs → vs = bs.map V.int
  | [], vs, bs, e, r => by
    cases r
    cases e
    rfl
  | .int b :: ds, _ :: vs, bs, e, .cons h r => by
    cases h
    have e : (intsD ds).map (b :: ·) = some bs := e
    cases e1 : intsD ds with
    | none => rw [e1] at e; cases e
    | some cs =>
      rw [e1] at e
      cases e
      rw [ints_rps e1 r]
      rfl
def maxI : List Int → Int
  | [] => 0
  | x :: xs => xs.foldl max x
theorem maxI_of {ns : List Int} {m : Int} (hm : m ∈ ns) (hle : ∀ y, y ∈ ns → y ≤ m) : maxI ns = m := by
  cases ns with
  | nil => cases hm
  | cons x xs =>
    have key : ∀ (l : List Int) (a : Int), (a = m ∨ m ∈ l) → (a ≤ m) → (∀ y ∈ l, y ≤ m) → l.foldl max a = m := by
      intro l
      induction l with
      | nil => intro a h1 h2 h3; rcases h1 with h1 | h1; exact h1; cases h1
      | cons b l ih =>
        intro a h1 h2 h3
        have hb : b ≤ m := h3 b (by simp)
        refine ih (max a b) ?_ (by omega) (fun y hy => h3 y (by simp [hy]))
        rcases h1 with h1 | h1
        · left; omega
        · rcases List.mem_cons.mp h1 with h1 | h1
          · left; omega
          · exact .inr h1
    exact key xs x ((List.mem_cons.mp hm).imp (·.symm) id) (hle x (by simp)) (fun y hy => hle y (by simp [hy]))
def maxD : List D → Option D
  | [.lst ds] => match intsD ds with
    | some ns => if ns.isEmpty then none else some (.int (maxI ns))
    | none => none
  | _ => none
theorem max_ok : CallD K (rMax K) maxD := by
  intro ha H G ds vs z Q e le ng r q
  unfold maxD at e
  split at e
  · rename_i ds
    obtain ⟨v, rfl, r1⟩ := rvs1 r
    obtain ⟨a, ws, rfl, h, rr⟩ := rv_lst r1 le
    split at e
    · rename_i ns e1
      split at e
      · cases e
      · rename_i hne
        cases e
        rw [ints_rps e1 rr] at h
        refine ⟨a, ns, rfl, .of h, ?_, fun m hm hle => ?_⟩
        · cases ns with
          | nil => exact absurd rfl hne
          | cons _ _ => simp
        · have := q (.int m) H G (New.refl le ng)
          rw [maxI_of hm hle] at this
          exact this (.int m)
    · cases e
  · cases e
/-- tuple(x) -/
def tupleD : List D → Option D
  | [.lst ds] => some (.tup ds)
  | [.tup ds] => some (.tup ds)
  | _ => none
theorem tuple_ok : CallD K (fun xs H Q => ∃ p ys, xs = [.ref p] ∧ ((SqL K H p ys ∧ ∀ l, H l = none → Q (.ref l) (upd H l (.tup ys))) ∨ (SqT K H p ys ∧ Q (.ref p) H))) tupleD := by
  intro ha H G ds vs z Q e le ng r q
  unfold tupleD at e
  split at e
  · obtain ⟨v, rfl, r1⟩ := rvs1 r
    cases e
    obtain ⟨a, ws, rfl, h, rr⟩ := rv_lst r1 le
    refine ⟨a, ws, rfl, .inl ⟨.of h, fun l hl => ?_⟩⟩
    have n := New.one (o := .tup ws) le ng hl nt_tup
    exact q _ _ _ n (.tup (.inl (.inl upd_same)) (rr.le n.gg))
  · obtain ⟨v, rfl, r1⟩ := rvs1 r
    cases e
    obtain ⟨a, ws, rfl, h, rr⟩ := rv_tup r1
    exact ⟨a, ws, rfl, .inr ⟨le.t h, q _ H G (New.refl le ng) (.tup h rr)⟩⟩
  · cases e
/-- list(x) -/
def listD : List D → Option D
  | [.lst ds] => some (.lst ds)
  | [.tup ds] => some (.lst ds)
  | _ => none
theorem list_ok : CallLs K (fun xs H Q => ∃ p ys, xs = [.ref p] ∧ (SqL K H p ys ∨ SqT K H p ys) ∧ ∀ l, H l = none → Q (.ref l) (upd H l (.lst ys))) listD := by
  intro ha H G ds vs z Q e le r q
  unfold listD at e
  split at e
  · obtain ⟨v, rfl, r1⟩ := rvs1 r
    cases e
    obtain ⟨a, ws, rfl, h, rr⟩ := rv_lst r1 le
    exact ⟨a, ws, rfl, .inl (.of h), fun l hl => q l ws _ hl rfl rr⟩
  · obtain ⟨v, rfl, r1⟩ := rvs1 r
    cases e
    obtain ⟨a, ws, rfl, h, rr⟩ := rv_tup r1
    exact ⟨a, ws, rfl, .inr (le.t h), fun l hl => q l ws _ hl rfl rr⟩
  · cases e

/-! ### isinstance, a built-in type -/
def tyN : D → Option String
  | .non => some "NoneType"
  | .bl _ => some "bool"
  | .int _ => some "int"
  | .str _ => some "str"
  | .tup _ => some "tuple"
  | .lst _ => some "list"
  | .hnd => none
theorem tyX_of {d : D} {v : V} {n : String} (le : Le G H) (e : tyN d = some n) (r : relK .V K ha H H G d v) : TyX K H v (.type n) := by
  cases d <;> first
    | (cases e; rw [rv_non r]; exact .base .non)
    | (cases e; rw [rv_bl r]; exact .base (.bl _))
    | (cases e; rw [rv_int r]; exact .base (.int _))
    | (cases e; rw [rv_str r]; exact .base (.str _))
    | (cases e
       obtain ⟨a, ws, rfl, h, rr⟩ := rv_tup r
       rcases le.t h with (h | ⟨o, h⟩) | ⟨o, its, m, h1, h2, _⟩
       · exact .base (.tup h)
       · exact .fTuple h
       · exact .kTuple h1 h2)
    | (cases e
       obtain ⟨a, ws, rfl, h, rr⟩ := rv_lst r le
       exact .base (.lst h))
    | (cases e)
def isiD (T : String) (d : D) : Option D := match tyN d with
  | some n => (kitB n T).map .bl
  | none => none
section
variable {X : Cx} {W : WXd}
theorem e_isi {T : String} {x : Str} {a : Expr} {f : EM D} {p p2 pos : Pos} (hg : Gl X "isinstance") (hm : X.mg "isinstance" = none) (ha : DE X W .V a f) (hg2 : Gl X x) (hm2 : X.mg x = none) (hv : bootBuiltins x = some (.type T)) (hn : x ≠ "__name__" := by decide) (hdb : (x == ("__debug__" : Str)) = false := by decide)
    (he : starEach [a, .Name x p2] X.env = (false, eval a X.env) :: starEach [.Name x p2] X.env := by rfl) (hpl : (backTo pos (starEach [.Name x p2] X.env)).any (·.1) = false := by rfl) (he2 : starEach [.Name x p2] X.env = (false, eval (.Name x p2) X.env) :: starEach [] X.env := by rfl) :
    DE X W .E (.Call (.Name "isinstance" p) [a, .Name x p2] [] pos) (mapM1 f (isiD T)) :=
  PE.imp (pe_callB call_isi hg hm PyProof.Rows.boot_isinstance (pa_cons ha (pa_cons (pe_bltn (v := .ty T) hg2 hm2 hv rfl hn hdb) pa_nil he2) he) (by decide) (by decide) he hpl) fun σ H Q ⟨c, ρ, h, G, I, q⟩ => ⟨c, ρ, h, G, I, Pst.bind q bE fun h1 d v H1 G1 I1 E1 r1 q1 => by
    obtain ⟨z, e, q2⟩ := Pst.lift q1
    unfold isiD at e
    split at e
    · rename_i n e1
      cases e2 : kitB n T with
      | none => rw [e2] at e; cases e
      | some b =>
        rw [e2] at e
        cases e
        exact ⟨v, .ty T, _, _, b, rfl, .ty T, tyX_of I1.sub e1 (relV_same r1), kit_ty e2, q2 _ H1 G1 I1 (Ext.refl _ _ _) (.bl b)⟩
    · cases e⟩
end

/-! ### methods of texts -/
def MsD (K : PySem.W.Frag) (r : V → List V → Hp → VK → Prop) (p : List Nat → List D → Option D) : Prop := ∀ (ha : HA) (H G : Hp) (l : List Nat) (ds : List D) (vs : List V) (z : D) (Q : VK), p l ds = some z → Le G H → (∀ a o, G a = some o → nt o) → Rvs K ha H G ds vs →
  (∀ u H' G', New H G H' G' → Rp K ha G' z u → Q u H') → r (.str ⟨l.toArray⟩) vs H Q
def msM (f : EM D) (g : EM (List D)) (p : List Nat → List D → Option D) : EM D := bindM f fun d => match d with
  | .str l => bindM g fun ds => lift (p l ds)
  | _ => fun _ _ => .stuck
section
variable {X : Cx} {W : WXd} {o e : Expr} {es : List Expr} {f : EM D} {g : EM (List D)} {name : Str} {apos cpos : Pos} {id : String}
theorem e_ms {r : V → List V → Hp → VK → Prop} {p : List Nat → List D → Option D} (slot : Slot "str" name id) (hty : typeOf (.builtin id) = pure (.type "method_descriptor")) (hm : MtR X id r) (hp : MsD X.K r p) (ho : DE X W .E o f) (ha : DV X W (e :: es) g)
    (hbase : attributeBase o name X.env (eval o X.env) = eval o X.env := by rfl)
    (hfew : ((backTo cpos (starEach (e :: es) X.env)).all (fun x => !x.1) && (backToKw cpos (keywordEach [] X.env)).all (fun x => x.1.isSome) && decide ((e :: es).length + ([] : List Keyword).length + (if ([] : List Keyword).isEmpty then 0 else 1) < 30)) = true := by rfl)
    (hline : (apos.endLine == cpos.line) = true := by rfl) (hs : starEach (e :: es) X.env = (false, eval e X.env) :: starEach es X.env := by rfl) (hplain : (backTo cpos (starEach es X.env)).any (·.1) = false := by rfl) :
    DE X W .E (.Call (.Attribute o name apos) (e :: es) [] cpos) (msM f g p) :=
  PE.imp (pe_bm PySem.F.plainAttrs_str slot hty hm ho ha hbase hfew hline hs hplain) fun σ H Q ⟨c, ρ, h, G, I, q⟩ => ⟨c, ρ, h, G, I, Pst.bind q bE fun h1 d v H1 G1 I1 E1 r1 q1 => by
    cases d with
    | str l =>
      cases (show Rp X.K c.ha G1 (.str l) v from r1)
      refine ⟨rfl, c, ρ, h1, G1, I1, Pst.bind q1 bE fun h2 ds vs H2 G2 I2 E2 r2 q2 => ?_⟩
      obtain ⟨z, e, q3⟩ := Pst.lift q2
      exact hp c.ha H2 G2 l ds vs z Q e I2.sub I2.ntG r2 fun u H' G' n ru => q3 u H' G' (I2.nw n) n.ext ru
    | _ => exact False.elim q1⟩
end
end
end DL

set_option Elab.async false
set_option linter.all false
set_option maxRecDepth 100000
set_option maxHeartbeats 4000000
namespace DL
open PySem PySem.Spec PyProof.Rows L2
section
variable {K : PySem.W.Frag}
theorem cat_ok : OpL K rCat catD := by
  intro ha H G x y z v w Q e le rx ry q
  unfold catD at e
  split at e
  · obtain ⟨hl, rfl⟩ := if_some e
    obtain ⟨a, vs, rfl, h1, r1⟩ := rv_lst rx le
    obtain ⟨b, ws, rfl, h2, r2⟩ := rv_lst ry le
    exact ⟨a, b, vs, ws, rfl, rfl, h1, h2, by rw [← r1.length, ← r2.length]; exact hl, fun p hp => q p _ _ hp rfl (r1.append r2)⟩
  · cases e
theorem rep_ok : OpL K rRep repD := by
  intro ha H G x y z v w Q e le rx ry q
  unfold repD at e
  split at e
  · obtain ⟨⟨b1, b2, b3⟩, rfl⟩ := if_some e
    obtain ⟨a, vs, rfl, h1, r1⟩ := rv_lst rx le
    rw [rv_int ry]
    exact ⟨a, _, vs, rfl, rfl, h1, b1, b2, by rw [← r1.length]; exact b3, fun p hp => q p _ _ hp rfl (r1.flatten_replicate _)⟩
  · cases e

/-! ### join, index -/
def strsD : List D → Option (List (List Nat))
  | [] => some []
  | .str l :: ds => (strsD ds).map (l :: ·)
  | _ => none
theorem strs_rps {ha : HA} {G : Hp} : ∀ {ds : List D} {vs : List V} {ls : List (List Nat)}, strsD ds = some ls → Rps K ha G ds vs → vs = (ls.map fun l => (⟨l.toArray⟩ : Str)).map V.str
  | [], vs, ls, e, r => by
    cases r
    cases e
    rfl
  | .str l :: ds, _ :: vs, ls, e, .cons h r => by
    cases h
    have e : (strsD ds).map (l :: ·) = some ls := e
    cases e1 : strsD ds with
    | none => rw [e1] at e; cases e
    | some ms =>
      rw [e1] at e
      cases e
      rw [strs_rps e1 r]
      rfl
def joinN (s : List Nat) : List (List Nat) → List Nat
  | [] => []
  | [x] => x
  | x :: y :: r => x ++ (s ++ joinN s (y :: r))
theorem join_mk (s : List Nat) : ∀ ls : List (List Nat), Str.join ⟨s.toArray⟩ (ls.map fun l => (⟨l.toArray⟩ : Str)) = ⟨(joinN s ls).toArray⟩
  | [] => rfl
  | [x] => rfl
  | x :: y :: r => by
    have ih := join_mk s (y :: r)
    have e : Str.join ⟨s.toArray⟩ ((x :: y :: r).map fun l => (⟨l.toArray⟩ : Str)) = (⟨x.toArray⟩ : Str) ++ (⟨s.toArray⟩ : Str) ++ Str.join ⟨s.toArray⟩ ((y :: r).map fun l => (⟨l.toArray⟩ : Str)) := rfl
    rw [e, ih, strmk_app, strmk_app]
    simp [joinN]
def joinD (s : List Nat) : List D → Option D
  | [.lst ds] => match strsD ds with
    | some ls => if (ls.map List.length).sum + ls.length * s.length ≤ 16777216 then some (.str (joinN s ls)) else none
    | none => none
  | [.tup ds] => match strsD ds with
    | some ls => if (ls.map List.length).sum + ls.length * s.length ≤ 16777216 then some (.str (joinN s ls)) else none
    | none => none
  | _ => none
abbrev rJoin (K : PySem.W.Frag) : V → List V → Hp → VK → Prop := fun x xs H Q => ∃ a p, ∃ ys : List Str, x = .str a ∧ xs = [.ref p] ∧ (SqL K H p (ys.map V.str) ∨ SqT K H p (ys.map V.str)) ∧ (ys.map (·.length)).sum + ys.length * a.length ≤ 16777216 ∧ Q (.str (Txt.join a ys)) H
theorem join_len (s : List Nat) (ls : List (List Nat)) : ((ls.map fun l => (⟨l.toArray⟩ : Str)).map (·.length)).sum + (ls.map fun l => (⟨l.toArray⟩ : Str)).length * (⟨s.toArray⟩ : Str).length = (ls.map List.length).sum + ls.length * s.length := by
  have e : ((ls.map fun l => (⟨l.toArray⟩ : Str)).map (·.length)) = ls.map List.length := by
    rw [List.map_map]
    apply List.map_congr_left
    intro l _
    simp [Str.length]
  rw [e, List.length_map]
  simp [Str.length]
theorem join_ok : MsD K (rJoin K) joinD := by
  intro ha H G s ds vs z Q e le ng r q
  unfold joinD at e
  split at e
  · obtain ⟨v, rfl, r1⟩ := rvs1 r
    obtain ⟨a, ws, rfl, h, rr⟩ := rv_lst r1 le
    split at e
    · rename_i ls e1
      obtain ⟨hl, rfl⟩ := if_some e
      rw [strs_rps e1 rr] at h
      refine ⟨_, a, _, rfl, rfl, .inl (.of h), by rw [join_len]; exact hl, ?_⟩
      rw [TL.join_eq, join_mk]
      exact q _ H G (New.refl le ng) (.str _)
    · cases e
  · obtain ⟨v, rfl, r1⟩ := rvs1 r
    obtain ⟨a, ws, rfl, h, rr⟩ := rv_tup r1
    split at e
    · rename_i ls e1
      obtain ⟨hl, rfl⟩ := if_some e
      rw [strs_rps e1 rr] at h
      refine ⟨_, a, _, rfl, rfl, .inr (le.t h), by rw [join_len]; exact hl, ?_⟩
      rw [TL.join_eq, join_mk]
      exact q _ H G (New.refl le ng) (.str _)
    · cases e
  · cases e
/-- s.index(t) where t stands in s -/
def indexD (s : List Nat) : List D → Option D
  | [.str t] => (Txt.index0 ⟨s.toArray⟩ ⟨t.toArray⟩).map fun (k : Nat) => .int k
  | _ => none
end
section
variable {X : Cx} {W : WXd} {o e : Expr} {es : List Expr} {f : EM D} {g : EM (List D)} {name : Str} {apos cpos : Pos} {id : String}
theorem e_join (ho : DE X W .E o f) (ha : DV X W [e] g) (hbase : attributeBase o "join" X.env (eval o X.env) = eval o X.env := by rfl)
    (hfew : ((backTo cpos (starEach [e] X.env)).all (fun x => !x.1) && (backToKw cpos (keywordEach [] X.env)).all (fun x => x.1.isSome) && decide ([e].length + ([] : List Keyword).length + (if ([] : List Keyword).isEmpty then 0 else 1) < 30)) = true := by rfl)
    (hline : (apos.endLine == cpos.line) = true := by rfl) (hs : starEach [e] X.env = (false, eval e X.env) :: starEach [] X.env := by rfl) (hplain : (backTo cpos (starEach [] X.env)).any (·.1) = false := by rfl) :
    DE X W .E (.Call (.Attribute o "join" apos) [e] [] cpos) (msM f g joinD) := e_ms PySem.F.slot_str_join PySem.F.type_str_join mt_join join_ok ho ha hbase hfew hline hs hplain
theorem e_index (hc : X.calm = true) (tk : Takes X W) (ho : DE X W .E o f) (ha : DV X W [e] g) (hbase : attributeBase o "index" X.env (eval o X.env) = eval o X.env := by rfl)
    (hfew : ((backTo cpos (starEach [e] X.env)).all (fun x => !x.1) && (backToKw cpos (keywordEach [] X.env)).all (fun x => x.1.isSome) && decide ([e].length + ([] : List Keyword).length + (if ([] : List Keyword).isEmpty then 0 else 1) < 30)) = true := by rfl)
    (hline : (apos.endLine == cpos.line) = true := by rfl) (hs : starEach [e] X.env = (false, eval e X.env) :: starEach [] X.env := by rfl) (hplain : (backTo cpos (starEach [] X.env)).any (·.1) = false := by rfl) :
    DE X W .E (.Call (.Attribute o "index" apos) [e] [] cpos) (msM f g indexD) :=
  PE.imp (pe_bmS PySem.F.plainAttrs_str PySem.F.slot_str_index PySem.F.type_str_index (mt_indexX hc tk) ho ha hbase hfew hline hs hplain) fun σ H Q ⟨c, ρ, h, G, I, q⟩ => ⟨c, ρ, h, G, I, Pst.bind q bE fun h1 d v H1 G1 I1 E1 r1 q1 => by
    cases d with
    | str l =>
      cases (show Rp X.K c.ha G1 (.str l) v from r1)
      refine ⟨rfl, c, ρ, h1, G1, I1, Pst.bind q1 bE fun h2 ds vs H2 G2 I2 E2 r2 q2 => ?_⟩
      obtain ⟨z, e, q3⟩ := Pst.lift q2
      unfold indexD at e
      split at e
      · rename_i t
        obtain ⟨v2, rfl, rr⟩ := rvs1 r2
        cases e3 : Txt.index0 ⟨l.toArray⟩ ⟨t.toArray⟩ with
        | none => rw [e3] at e; cases e
        | some k =>
          rw [e3] at e
          cases e
          rw [rv_str rr]
          refine ⟨_, _, rfl, rfl, fun k' e4 => ?_, fun e4 => ?_⟩
          · rw [e3] at e4
            cases e4
            exact q3 _ H2 G2 I2 (Ext.refl _ _ _) (.int _)
          · rw [e3] at e4
            cases e4
      · cases e
    | _ => exact False.elim q1⟩

/-! ### lists that the frame owns -/
theorem SI.push {K : PySem.W.Frag} {c : C} {ρ : En} {h : Hand} {σ : L2.St} {H G : Hp} (I : SI K c ρ h σ H G) {i : Nat} {ds es : List D} {a : Addr} {vs : List V} (e : ρ[i]? = some (some (.own ds))) (ea : σ[i]? = some (some (.ref a))) (r : Rps K c.ha G es vs) :
    SI K c (ρ.set i (some (.own es))) h σ (upd H a (.lst vs)) G := by
  obtain ⟨a', ws, e1, e2, e3, e4, e5⟩ := I.own i ds e
  rw [ea] at e1
  have ea' : a = a' := by cases e1; rfl
  subst ea'
  have nha : c.ha.a ≠ a := fun z => I.h0a (by rw [z]; exact e4)
  have ne : ∀ b, b ≠ a → upd H a (.lst vs) b = H b := fun b n => upd_ne n
  have hl : i < ρ.length := (List.getElem?_eq_some_iff.mp e).1
  refine ⟨fun b o z => by rw [ne b (ne_of_none z e3)]; exact I.sub b o z, I.ntG, I.g0, fun b o n t z => by rw [ne b (ne_of_none z e4)]; exact I.h0 b o n t z, fun b z => by rw [ne b fun y => z (by rw [y]; exact e4)]; exact I.d0 b z, I.new, ?_, I.hag, I.h0a, by rw [List.length_set]; exact I.len, fun j d q => ?_, fun j fs q => ?_, fun j k dj dk b q1 q2 q3 q4 => ?_, tabs_upd I.tab e2⟩
  · obtain ⟨ca, z1, z2⟩ := I.hnd
    exact ⟨ca, by rw [ne _ nha]; exact z1, z2⟩
  · rcases getElem?_set_cases q with ⟨rfl, z⟩ | ⟨n, q⟩
    · cases z
    · exact I.val j d q
  · rcases getElem?_set_cases q with ⟨rfl, z⟩ | ⟨n, q⟩
    · cases z
      exact ⟨a, vs, ea, upd_same, e3, e4, r⟩
    · obtain ⟨b, us, y1, y2, y3, y4, y5⟩ := I.own j fs q
      refine ⟨b, us, y1, ?_, y3, y4, y5⟩
      rw [ne b fun z => ?_]
      · exact y2
      · rw [z] at y1
        exact n (I.apart i j ds fs a e q ea y1)
  · have get : ∀ (m : Nat) (dm : List D), (ρ.set i (some (Sl.own es)))[m]? = some (some (Sl.own dm)) → ∃ dm', ρ[m]? = some (some (Sl.own dm')) := fun m dm q => by
      rcases getElem?_set_cases q with ⟨rfl, z⟩ | ⟨n, q⟩
      · exact ⟨ds, e⟩
      · exact ⟨dm, q⟩
    obtain ⟨d1, y1⟩ := get j dj q1
    obtain ⟨d2, y2⟩ := get k dk q2
    exact I.apart j k d1 d2 b y1 y2 q3 q4
def ownAt (i : Nat) (ρ : En) : Option (List D) := match ρ[i]? with
  | some (some (.own ds)) => some ds
  | _ => none
theorem ownAt_of {i : Nat} {ρ : En} {ds : List D} (e : ownAt i ρ = some ds) : ρ[i]? = some (some (.own ds)) := by
  unfold ownAt at e
  split at e
  · rename_i h; cases e; exact h
  · cases e
/-- x.append(e), x a list that the frame owns; its own value ahead of e must be there: an e that raises is not served -/
def appS' (i : Nat) (f : EM D) : SM := fun ρ h => match ownAt i ρ with
  | some ds => (f ρ h).to ρ fun d h' => if ds.length < sizeLine then .ok .next (ρ.set i (some (.own (ds ++ [d])))) h' else .stuck
  | none => .stuck
theorem s_append {i : Nat} {x : Str} {p : Pos} {pos : Pos} (hN : X.N[i]? = some x) (hv : Vis X.env.scope x) (he : DE X W .E e f)
    (hbase : attributeBase (.Name x p) "append" X.env (eval (.Name x p) X.env) = eval (.Name x p) X.env := by rfl)
    (hfew : ((backTo cpos (starEach [e] X.env)).all (fun x => !x.1) && (backToKw cpos (keywordEach [] X.env)).all (fun x => x.1.isSome) && decide ([e].length + ([] : List Keyword).length + (if ([] : List Keyword).isEmpty then 0 else 1) < 30)) = true := by rfl)
    (hline : (apos.endLine == cpos.line) = true := by rfl) (hs : starEach [e] X.env = (false, eval e X.env) :: starEach [] X.env := by rfl) (hplain : (backTo cpos (starEach [] X.env)).any (·.1) = false := by rfl)
    (hsw : swapsWith (.Call (.Attribute (.Name x p) "append" apos) [e] [] cpos) none pos.line X.env = pure false := by rfl) (hd : (x == ("__debug__" : Str)) = false := by decide) (hcd : (x == ("__classdict__" : Str)) = false := by decide) :
    DS X W (.Expr (.Call (.Attribute (.Name x p) "append" apos) [e] [] cpos) pos) (appS' i f) :=
  PS.imp (ps_expr (pe_bm PySem.F.plainAttrs_list PySem.F.slot_list_append PySem.F.type_list_append mt_append (pe_var hN hv hd hcd) (pa_cons he pa_nil hs) hbase hfew hline hs hplain) hsw) fun D σ H ⟨c, ρ, h, G, I, q⟩ => by
    unfold appS' at q
    cases e1 : ownAt i ρ with
    | none => rw [e1] at q; exact False.elim q
    | some ds =>
      rw [e1] at q
      obtain ⟨a, vs, y1, y2, y3, y4, y5⟩ := I.own i ds (ownAt_of e1)
      refine ⟨.ref a, y1, .inl ⟨rfl, vs, .of y2⟩, c, ρ, h, G, I, Pst.of q fun d h' v H' G' q I' E' r' => ?_⟩
      obtain ⟨a2, vs2, w1, w2, w3, w4, w5⟩ := I'.own i ds (ownAt_of e1)
      rw [y1] at w1
      cases w1
      by_cases hl : ds.length < sizeLine
      · rw [if_pos hl] at q
        refine ⟨a, vs2, v, rfl, rfl, w2, by rw [← w5.length]; exact hl, ?_⟩
        exact q σ _ G' (I'.push (ownAt_of e1) y1 (w5.append (.cons r' .nil)))
      · rw [if_neg hl] at q
        exact False.elim q
/-- x[k] = e, x a list that the frame owns -/
def stS (i : Nat) (fk f : EM D) : SM := fun ρ h => match ownAt i ρ with
  | some ds => (f ρ h).to ρ fun d h1 => (fk ρ h1).to ρ fun k h2 => match k with
    | .int k => match ixN ds.length k with
      | some j => .ok .next (ρ.set i (some (.own (ds.set j d)))) h2
      | none => .stuck
    | _ => .stuck
  | none => .stuck
theorem s_store {i : Nat} {x : Str} {p tpos pos : Pos} {k : Expr} {fk : EM D} (hN : X.N[i]? = some x) (hv : Vis X.env.scope x) (he : DE X W .E e f) (hk : DE X W .E k fk)
    (ha : ∀ v, assign (.Subscript (.Name x p) k tpos) X.env v = (do
      let ov ← holding [v] (eval (.Name x p) X.env)
      let iv ← holding [v, ov] (eval k X.env)
      standAt tpos
      holding [v, ov, iv] (setItem ov iv v)
      release [v, ov, iv] []) := by intro _; rfl)
    (hs : swapsWithSole [.Subscript (.Name x p) k tpos] e pos.line X.env = pure false := by rfl) (hw : swappedStores [.Subscript (.Name x p) k tpos] e X.env = pure none := by rfl)
    (h1 : (assignEach [.Subscript (.Name x p) k tpos] X.env).map (·.2) = [assign (.Subscript (.Name x p) k tpos) X.env] := by rfl) (hd : (x == ("__debug__" : Str)) = false := by decide) (hcd : (x == ("__classdict__" : Str)) = false := by decide) :
    DS X W (.Assign [.Subscript (.Name x p) k tpos] e pos) (stS i fk f) :=
  PS.imp (ps_asg he (pg_sub (pe_var hN hv hd hcd) hk set_list ha) hs hw h1) fun D σ H ⟨c, ρ, h, G, I, q⟩ => by
    unfold stS at q
    cases e1 : ownAt i ρ with
    | none => rw [e1] at q; exact False.elim q
    | some ds =>
      rw [e1] at q
      obtain ⟨a, vs, y1, y2, y3, y4, y5⟩ := I.own i ds (ownAt_of e1)
      refine ⟨c, ρ, h, G, I, Pst.of q fun d h1 v H1 G1 q1 I1 E1 r1 => ⟨.ref a, y1, c, ρ, h1, G1, I1, Pst.of q1 fun kd h2 kv H2 G2 q2 I2 E2 r2 => ?_⟩⟩
      cases kd with
      | int k =>
        cases (show Rp X.K c.ha G2 (.int k) kv from r2)
        obtain ⟨a2, vs2, w1, w2, w3, w4, w5⟩ := I2.own i ds (ownAt_of e1)
        rw [y1] at w1
        cases w1
        cases e3 : ixN ds.length k with
        | none =>
          have q2 : PstS X.K X.mg W c D (match ixN ds.length k with | some j => .ok .next (ρ.set i (some (.own (ds.set j d)))) h2 | none => .stuck) := q2
          rw [e3] at q2
          exact False.elim q2
        | some j =>
          have q2 : PstS X.K X.mg W c D (match ixN ds.length k with | some j => .ok .next (ρ.set i (some (.own (ds.set j d)))) h2 | none => .stuck) := q2
          rw [e3] at q2
          refine ⟨a, vs2, k, j, rfl, rfl, w2, by rw [← w5.length]; exact e3, ?_⟩
          exact q2 σ _ G2 (I2.push (ownAt_of e1) y1 (w5.set (Rp.le E2.le r1) j))
      | _ => exact False.elim q2
end
end DL

set_option Elab.async false
set_option linter.all false
set_option maxRecDepth 100000
set_option maxHeartbeats 4000000
namespace DL
open PySem PySem.Spec PyProof.Rows L2

/-! ### a module's constants, own exception classes -/
structure ConstIs (K : PySem.W.Frag) (mg : Str → Option Value) (x : Str) (d : D) : Prop where
  ex : ∃ v u, mg x = some u ∧ RelV v u ∧ ∀ ha G, Rp K ha G d v
structure ExcIs (K : PySem.W.Frag) (mg : Str → Option Value) (x : Str) : Prop where
  ex : ∃ C bmB B newId initId, mg x = some (.ref C) ∧ ExcBaseFacts B newId initId bmB ∧ PySem.W.excIn K C bmB newId = true ∧ PySem.W.keepIn K (.ref C) = true ∧ PySem.W.subIn K (.ref C) (.type "BaseException") = some true ∧ PySem.W.typeIn K (.ref C) = some (.type "type")
section
variable {X : Cx} {W : WXd}
theorem e_const {x : Str} {d : D} {pos : Pos} (hg : Gl X x) (c : ConstIs X.K X.mg x d) (hd : (x == ("__debug__" : Str)) = false := by decide) : DE X W .E (.Name x pos) (pureM d) := by
  obtain ⟨v, u, h1, h2, h3⟩ := c.ex
  exact e_glob hg h1 h2 h3 hd
/-- C() of an own exception class without own __init__ -/
theorem pmk_own0 {C : Addr} {bmB : List Value} {B newId initId : String} {x : Str} {p pos : Pos} (F : ExcBaseFacts B newId initId bmB) (q : PySem.W.excIn X.K C bmB newId = true) (gC : X.mg x = some (.ref C))
    (kC : PySem.W.keepIn X.K (.ref C) = true) (r : Raises X (.ref C)) (hg : Gl X x) (hdb : (x == ("__debug__" : Str)) = false := by decide) :
    PMk X (.Call (.Name x p) [] [] pos) (fun σ H Q => Q (.ref C) none H) := by
  intro pins s σ H Q I h
  refine wpAny_Call_Name_kw (ld_glob I hg gC ?_ hdb)
  refine PySem.W.callWith_K0 I.kIn kC ?_
  show wpAny _ _ (call (.ref C) []) _ _ _
  obtain ⟨bm, N, nm, qn, bs, hdct, sn, sub, ab, col, dd, k0, k1, k2, k3, k5, mN, hC, hN, hni, T⟩ := exc_obj I.kIn q
  refine wpAny_call_exc_subT F T hC hN hni (fun h' e hm => ?_) (by show 0 ≤ sizeLine; omega)
  exact mk_of I hm r h (I.hok.gone hm.new)
/-- raise X() -/
def raiseS (x : Str) : SM := fun ρ h => .err x ρ h
theorem s_raise {x : Str} {p pos pos' : Pos} (hc : X.calm = true) (tk : Takes X W) (ex : ExcIs X.K X.mg x) (hg : Gl X x) (hdb : (x == ("__debug__" : Str)) = false := by decide) :
    DS X W (.Raise (some (.Call (.Name x p) [] [] pos)) none pos') (raiseS x) := by
  obtain ⟨C, bmB, B, n1, n2, h1, h2, h3, h4, h5, h6⟩ := ex.ex
  exact PS.imp (ps_raise hc tk (pmk_own0 h2 h3 h1 h4 (raises_own h5 h6) hg hdb)) fun D σ H ⟨c, ρ, h, G, I, q⟩ => q σ H G C I h1
/-- a statement that is never reached -/
def stuckS : SM := fun _ _ => .stuck
theorem s_stuck {st : Stmt} : DS X W st stuckS := PS.imp ps_never fun D σ H ⟨c, ρ, h, G, I, q⟩ => q

/-! ### the hand's fields -/
def handGet (h : Hand) : Nat → Option D
  | 0 => some (.lst (h.cells.map D.int))
  | 1 => some (.int h.pos)
  | 2 => some (.int h.left)
  | 3 => some (.int h.mix)
  | 4 => some (.int h.cnt)
  | _ => none
def handSet (h : Hand) : Nat → D → Option Hand
  | 1, .int i => some { h with pos := i }
  | 2, .int i => some { h with left := i }
  | 3, .int i => some { h with mix := i }
  | 4, .int i => some { h with cnt := i }
  | _, _ => none
def isHnd (i : Nat) (ρ : En) : Bool := match ρ[i]? with
  | some (some (.val .hnd)) => true
  | _ => false
def handM (i k : Nat) : EM D := fun ρ h => match isHnd i ρ with
  | true => match handGet h k with
    | some d => .ok d h
    | none => .stuck
  | false => .stuck
def hstS (i k : Nat) (f : EM D) : SM := fun ρ h => match isHnd i ρ with
  | true => (f ρ h).to ρ fun d h' => match handSet h' k d with
    | some h2 => .ok .next ρ h2
    | none => .stuck
  | false => .stuck
theorem isHnd_of {i : Nat} {ρ : En} (e : isHnd i ρ = true) : ρ[i]? = some (some (.val .hnd)) := by
  unfold isHnd at e
  split at e
  · assumption
  · cases e
theorem rps_ints {K : PySem.W.Frag} {ha : HA} {G : Hp} : ∀ ns : List Int, Rps K ha G (ns.map D.int) (ns.map V.int)
  | [] => .nil
  | n :: ns => .cons (.int n) (rps_ints ns)
theorem hand_get {K : PySem.W.Frag} {c : C} {ρ : En} {h : Hand} {σ : L2.St} {H G : Hp} {k : Nat} {d : D} (I : SI K c ρ h σ H G) (e : handGet h k = some d) :
    ∃ xs v, H c.ha.a = some (.lst xs) ∧ atI xs (k : Int) = some v ∧ Rp K c.ha G d v := by
  obtain ⟨ca, e1, e2⟩ := I.hnd
  match k, e with
  | 0, e => cases e; exact ⟨_, .ref ca, e1, rfl, .lst e2 (rps_ints _)⟩
  | 1, e => cases e; exact ⟨_, _, e1, rfl, .int _⟩
  | 2, e => cases e; exact ⟨_, _, e1, rfl, .int _⟩
  | 3, e => cases e; exact ⟨_, _, e1, rfl, .int _⟩
  | 4, e => cases e; exact ⟨_, _, e1, rfl, .int _⟩
theorem e_hand (i k : Nat) {x : Str} {p p2 pos : Pos} {j : Nat} {kk : Int} (ek : kk = (k : Int) := by rfl) (hN : X.N[i]? = some x := by rfl) (hv : Vis X.env.scope x := by first | exact Or.inl rfl | exact Or.inr (Or.inl rfl) | exact Or.inr (Or.inr rfl)) (hd : (x == ("__debug__" : Str)) = false := by decide)
    (hcd : (x == ("__classdict__" : Str)) = false := by decide) : DE X W .E (.Subscript (.Name x p) (.Constant (.int kk) j p2) pos) (handM i k) :=
  PE.imp (pe_ix ix_seq (pe_var hN hv hd hcd) pe_int (fun _ _ => rfl)) fun σ H Q ⟨c, ρ, h, G, I, q⟩ => by
    subst ek
    unfold handM at q
    cases e : isHnd i ρ with
    | false => rw [e] at q; exact False.elim q
    | true =>
      rw [e] at q
      obtain ⟨v, e1, e2⟩ := I.val i _ (isHnd_of e)
      cases e2
      cases e3 : handGet h k with
      | none => rw [e3] at q; exact False.elim q
      | some d =>
        rw [e3] at q
        obtain ⟨xs, v, y1, y2, y3⟩ := hand_get I e3
        exact ⟨.ref c.ha.a, e1, .inl ⟨c.ha.a, xs, _, v, rfl, rfl, .of y1, y2, q v H G I (Ext.refl _ _ _) y3⟩⟩
theorem SI.hput {K : PySem.W.Frag} {c : C} {ρ : En} {h h2 : Hand} {σ : L2.St} {H G : Hp} {vs : List V} (I : SI K c ρ h σ H G) (x : HandAt K (upd H c.ha.a (.lst vs)) G c.ha h2) (ht : h2.T = h.T) : SI K c ρ h2 σ (upd H c.ha.a (.lst vs)) G := by
  have ne : ∀ b : Addr, b ≠ c.ha.a → upd H c.ha.a (.lst vs) b = H b := fun b n => upd_ne n
  refine ⟨fun b o z => by rw [ne b (ne_of_none z I.hag)]; exact I.sub b o z, I.ntG, I.g0, fun b o n t z => by rw [ne b n]; exact I.h0 b o n t z, fun b z => ?_, I.new, x, I.hag, I.h0a, I.len, I.val, fun i ds q => ?_, I.apart, ?_⟩
  · by_cases n : b = c.ha.a
    · subst n; rw [upd_same]; simp
    · rw [ne b n]; exact I.d0 b z
  · obtain ⟨a, ws, y1, y2, y3, y4, y5⟩ := I.own i ds q
    exact ⟨a, ws, y1, by rw [ne a fun z => I.h0a (by rw [← z]; exact y4)]; exact y2, y3, y4, y5⟩
  · obtain ⟨ca, z1, _⟩ := I.hnd
    rw [ht]
    exact tabs_upd I.tab z1
theorem s_hand (i k : Nat) {x : Str} {p p2 tpos pos : Pos} {j : Nat} {kk : Int} {e : Expr} {f : EM D} (he : DE X W .E e f) (ek : kk = (k : Int) := by rfl) (hN : X.N[i]? = some x := by rfl) (hv : Vis X.env.scope x := by first | exact Or.inl rfl | exact Or.inr (Or.inl rfl) | exact Or.inr (Or.inr rfl))
    (ha : ∀ v, assign (.Subscript (.Name x p) (.Constant (.int kk) j p2) tpos) X.env v = (do
      let ov ← holding [v] (eval (.Name x p) X.env)
      let iv ← holding [v, ov] (eval (.Constant (.int kk) j p2) X.env)
      standAt tpos
      holding [v, ov, iv] (setItem ov iv v)
      release [v, ov, iv] []) := by intro _; rfl)
    (hs : swapsWithSole [.Subscript (.Name x p) (.Constant (.int kk) j p2) tpos] e pos.line X.env = pure false := by rfl) (hw : swappedStores [.Subscript (.Name x p) (.Constant (.int kk) j p2) tpos] e X.env = pure none := by rfl)
    (h1 : (assignEach [.Subscript (.Name x p) (.Constant (.int kk) j p2) tpos] X.env).map (·.2) = [assign (.Subscript (.Name x p) (.Constant (.int kk) j p2) tpos) X.env] := by rfl) (hd : (x == ("__debug__" : Str)) = false := by decide) (hcd : (x == ("__classdict__" : Str)) = false := by decide) :
    DS X W (.Assign [.Subscript (.Name x p) (.Constant (.int kk) j p2) tpos] e pos) (hstS i k f) :=
  PS.imp (ps_asg he (pg_sub (pe_var hN hv hd hcd) pe_int set_list ha) hs hw h1) fun D σ H ⟨c, ρ, h, G, I, q⟩ => by
    subst ek
    unfold hstS at q
    cases e : isHnd i ρ with
    | false => rw [e] at q; exact False.elim q
    | true =>
      rw [e] at q
      refine ⟨c, ρ, h, G, I, Pst.of q fun d h1 v H1 G1 q1 I1 E1 r1 => ?_⟩
      obtain ⟨v', e1, e2⟩ := I1.val i _ (isHnd_of e)
      cases e2
      cases e3 : handSet h1 k d with
      | none =>
        have q1 : PstS X.K X.mg W c D (match handSet h1 k d with | some h2 => .ok .next ρ h2 | none => .stuck) := q1
        rw [e3] at q1
        exact False.elim q1
      | some h2 =>
        have q1 : PstS X.K X.mg W c D (match handSet h1 k d with | some h2 => .ok .next ρ h2 | none => .stuck) := q1
        rw [e3] at q1
        obtain ⟨ca, y1, y2⟩ := I1.hnd
        refine ⟨.ref c.ha.a, e1, ?_⟩
        match k, d, e3 with
        | 1, .int n, e3 => cases r1; cases e3; exact ⟨c.ha.a, _, _, 1, rfl, rfl, y1, rfl, q1 σ _ G1 (I1.hput ⟨ca, upd_same, y2⟩ rfl)⟩
        | 2, .int n, e3 => cases r1; cases e3; exact ⟨c.ha.a, _, _, 2, rfl, rfl, y1, rfl, q1 σ _ G1 (I1.hput ⟨ca, upd_same, y2⟩ rfl)⟩
        | 3, .int n, e3 => cases r1; cases e3; exact ⟨c.ha.a, _, _, 3, rfl, rfl, y1, rfl, q1 σ _ G1 (I1.hput ⟨ca, upd_same, y2⟩ rfl)⟩
        | 4, .int n, e3 => cases r1; cases e3; exact ⟨c.ha.a, _, _, 4, rfl, rfl, y1, rfl, q1 σ _ G1 (I1.hput ⟨ca, upd_same, y2⟩ rfl)⟩

/-! ### a <= b <= c, -a, x ** y -/
def chainM (fa fb fc : EM D) : EM Bool := bindM fa fun x => bindM fb fun y => bindM (lift (leB x y)) fun k => if k = true then bindM fc fun z => lift (leB y z) else pureM false
theorem rv_of_E {K : PySem.W.Frag} {ha : HA} {Hs H G : Hp} {d : D} {v : V} (r : relK .E K ha Hs H G d v) : relK .V K ha H H G d v := .inl r
theorem chain_run {fa fb fc : EM D} {σ : L2.St} {H : Hp} {Q : Bool → Hp → Prop} {Q' : VK} {r : R2} (hp : CmpD X.K r leB) (h : tT X.K X.mg W (chainM fa fb fc) σ H Q) (hQ : ∀ k H', Q k H' → Q' (.bl k) H') :
    tChain r r (tE X.K X.mg W .E fa) (tE X.K X.mg W .E fb) (tE X.K X.mg W .E fc) σ H Q' := by
  obtain ⟨c, ρ, h, G, I, q⟩ := h
  refine ⟨c, ρ, h, G, I, Pst.bind q bT fun h1 x v H1 G1 I1 E1 r1 q1 => ⟨c, ρ, h1, G1, I1, Pst.bind q1 bT fun h2 y w H2 G2 I2 E2 r2 q2 => ?_⟩⟩
  unfold bindM at q2
  cases e : leB x y with
  | none => rw [e] at q2; exact False.elim q2
  | some k =>
    rw [e] at q2
    have rv1 : relK .V X.K c.ha H2 H2 G2 x v := .inl (Rp.le E2.le r1)
    refine hp c.ha H2 G2 x y k v w _ e I2.sub rv1 (.inl r2) ⟨k, rfl, ?_⟩
    cases k with
    | false => exact hQ _ _ (Pst.pure (α := Bool) q2 false H2 G2 I2 (Ext.refl _ _ _) rfl)
    | true =>
      refine ⟨c, ρ, h2, G2, I2, Pst.bind (f := fc) (g := fun z => lift (leB y z)) q2 bT fun h3 z u H3 G3 I3 E3 r3 q3 => ?_⟩
      obtain ⟨k2, e2, q4⟩ := Pst.lift q3
      have rv2 : relK .V X.K c.ha H3 H3 G3 y w := .inl (Rp.le E3.le r2)
      exact hp c.ha H3 G3 y z k2 w u _ e2 I3.sub rv2 (.inl r3) (hQ _ _ (q4 k2 H3 G3 I3 (Ext.refl _ _ _) rfl))
theorem t_chain {a b c : Expr} {fa fb fc : EM D} {pos : Pos} (ha : DE X W .E a fa) (hb : DE X W .E b fb) (hc : DE X W .E c fc) (hm : lastMarks [.LtE, .LtE] [b, c] = false := by with_unfolding_all rfl) : DT X W (.Compare a [.LtE, .LtE] [b, c] pos) (chainM fa fb fc) :=
  PT.imp (pt_chain op_le op_le ha hb hc hm) fun σ H Q h => chain_run le_ok h fun k H' q => ⟨k, rfl, q⟩
theorem e_chain {a b c : Expr} {fa fb fc : EM D} {pos : Pos} (ha : DE X W .E a fa) (hb : DE X W .E b fb) (hc : DE X W .E c fc) (hm : lastMarks [.LtE, .LtE] [b, c] = false := by with_unfolding_all rfl) : DE X W .E (.Compare a [.LtE, .LtE] [b, c] pos) (blM (chainM fa fb fc)) := by
  refine PE.imp (pe_chain op_le op_le ha hb hc hm) fun σ H Q ⟨c', ρ, h, G, I, q⟩ => ?_
  have t : tT X.K X.mg W (chainM fa fb fc) σ H (fun k H' => Q (.bl k) H') := ⟨c', ρ, h, G, I, Pst.bind q (rel := fun _ _ _ _ a b => a = b) bE fun h1 k k' H1 G1 I1 E1 r1 q1 => by
    subst r1
    exact Pst.pure (α := D) q1 _ H1 G1 I1 (Ext.refl _ _ _) (.bl _)⟩
  exact chain_run le_ok t fun k H' q => q
def negM (f : EM D) : EM D := bindM f fun d => lift (match d with | .int i => some (.int (-i)) | _ => none)
theorem e_neg {a : Expr} {f : EM D} {pos : Pos} (ha : DE X W .E a f) : DE X W .E (.UnaryOp .USub a pos) (negM f) :=
  PE.imp (pe_un un_neg ha) fun σ H Q ⟨c, ρ, h, G, I, q⟩ => ⟨c, ρ, h, G, I, Pst.bind q bE fun h1 d v H1 G1 I1 E1 r1 q1 => by
    obtain ⟨z, e, q2⟩ := Pst.lift q1
    cases d with
    | int i =>
      cases (show Rp X.K c.ha G1 (.int i) v from r1)
      cases e
      exact ⟨i, rfl, q2 _ H1 G1 I1 (Ext.refl _ _ _) (.int _)⟩
    | _ => cases e⟩
end
section
variable {K : PySem.W.Frag}
def powD : D → D → Option D
  | .int i, .int j => if 0 ≤ j ∧ j ≤ 64 ∧ i.natAbs ≤ 1000 then some (.int (i ^ j.toNat)) else none
  | _, _ => none
theorem pow_ok : OpD K (rI CPow fun i j => .int (i ^ j.toNat)) powD := by
  intro ha H G x y z v w Q e le ng rx ry q
  unfold powD at e
  split at e
  · obtain ⟨hl, rfl⟩ := if_some e
    rw [rv_int rx, rv_int ry]
    exact ⟨_, _, rfl, rfl, ⟨hl.1, by omega, by omega⟩, q _ H G (New.refl le ng) (.int _)⟩
  · cases e
end
end DL

set_option Elab.async false
set_option linter.all false
set_option maxRecDepth 100000
set_option maxHeartbeats 4000000
namespace DL
open PySem PySem.Spec PyProof.Rows L2

/-! ### lists of pairs (int, str): min, sorted -/
abbrev IP := Int × List Nat
def ipV (p : IP) : D := .tup [.int p.1, .str p.2]
def ipS (p : IP) : Int × Str := (p.1, ⟨p.2.toArray⟩)
def ipsD : List D → Option (List IP)
  | [] => some []
  | .tup [.int i, .str l] :: ds => (ipsD ds).map ((i, l) :: ·)
  | _ => none
theorem ipsD_eq : ∀ {ds : List D} {ps : List IP}, ipsD ds = some ps → ds = ps.map ipV := by
  intro ds
  induction ds with
  | nil => intro ps e; cases e; rfl
  | cons d ds ih =>
    intro ps e
    unfold ipsD at e
    split at e
    · rename_i h; cases h
    · rename_i i l ds' h
      cases h
      cases e1 : ipsD ds with
      | none => rw [e1] at e; cases e
      | some qs =>
        rw [e1] at e
        cases e
        rw [ih e1]
        rfl
    · cases e
/-- the pairs' order -/
def ipLt (p q : IP) : Bool := if p.1 = q.1 then decide (p.2 < q.2) else decide (p.1 < q.1)
theorem ipS_inj {p q : IP} (h : ipS p = ipS q) : p = q := by
  cases p; cases q
  simp only [ipS, Prod.mk.injEq, Str.mk.injEq] at h
  have h2 := congrArg Array.toList h.2
  simp only at h2
  rw [h.1, h2]
theorem ipLt_eq (p q : IP) : PySem.W.DatumOrd.lt (ipS p) (ipS q) = ipLt p q := by
  show (if (ipS p).1 = (ipS q).1 then decide ((ipS p).2.cps.toList < (ipS q).2.cps.toList) else decide ((ipS p).1 < (ipS q).1)) = ipLt p q
  rfl
def minIP (p : IP) (ps : List IP) : IP := ps.foldl (fun a y => if ipLt y a = true then y else a) p
theorem minIP_map (p : IP) (ps : List IP) : PySem.W.minOf (ipS p) (ps.map ipS) = ipS (minIP p ps) := by
  unfold PySem.W.minOf minIP
  induction ps generalizing p with
  | nil => rfl
  | cons q ps ih =>
    rw [List.map_cons, List.foldl_cons, List.foldl_cons, ipLt_eq]
    by_cases h : ipLt q p = true
    · rw [if_pos h, if_pos h]; exact ih q
    · rw [if_neg h, if_neg h]; exact ih p
def minPD : List D → Option D
  | [.lst ds] => match ipsD ds with
    | some (p :: ps) => some (ipV (minIP p ps))
    | _ => none
  | _ => none
def leIP (p q : IP) : Bool := !ipLt q p
def sortedQD : List D → Option D
  | [.lst ds] => match ipsD ds with
    | some ps => if ps.length ≤ sizeLine then some (.lst ((ps.mergeSort leIP).map ipV)) else none
    | none => none
  | _ => none
theorem pair_uniq {h h' : Heap} {t : Addr} {p q : Int × Str} (r : PySem.W.Holds h (.ref t) p) (r' : PySem.W.Holds h' (.ref t) q) (k : ∀ b o, h.get? b = some o → h'.get? b = some o) : p = q := by
  obtain ⟨as, r⟩ := r
  obtain ⟨bs, r'⟩ := r'
  cases r with
  | tuple h1 h2 h3 h4 =>
    cases r' with
    | tuple g1 g2 g3 g4 =>
      rw [k _ _ h1] at g1
      cases g1
      rw [h3] at g3
      cases g3
      generalize Array.toList _ = vs at h4 g4
      obtain ⟨p1, p2⟩ := p
      obtain ⟨q1, q2⟩ := q
      cases h4 with
      | cons a1 a2 =>
        cases a2 with
        | cons a2 a3 =>
          cases g4 with
          | cons b1 b2 =>
            cases b2 with
            | cons b2 b3 =>
              cases a1
              cases b1
              cases a2
              cases b2
              rfl
section
variable {K : PySem.W.Frag} {X : Cx}
def rMinP (K : PySem.W.Frag) : List V → Hp → VK → Prop := fun vs H Q => ∃ a xs p ps, vs = [V.ref a] ∧ SqL K H a xs ∧ DpAll K H xs (((p :: ps).map ipS).map PySem.W.Datum.toD) ∧ (∀ x ∈ xs, ∃ t, x = V.ref t) ∧
  ∀ (i : Nat) v, xs[i]? = some v → (p :: ps)[i]? = some (minIP p ps) → Q v H
theorem readsAll_get {h : Heap} : ∀ {us : List Value} {ps : List (Int × Str)} {as : List Addr}, ReadsAll h us (ps.map PySem.W.Datum.toD) as → ∀ (i : Nat) (u : Value), us[i]? = some u → ∃ p, ps[i]? = some p ∧ PySem.W.Holds h u p
  | _, [], _, r, i, u, e => by
    cases r
    simp at e
  | _, p :: ps, _, r, i, u, e => by
    cases r with
    | cons r1 r2 =>
      cases i with
      | zero =>
        have e' := Option.some.inj (by simpa using e)
        subst e'
        exact ⟨p, rfl, _, r1⟩
      | succ i =>
        obtain ⟨q, h1, h2⟩ := readsAll_get r2 i u (by simpa using e)
        exact ⟨q, by simpa using h1, h2⟩
theorem cr_minP (hc : X.calm = true) (hu : X.A.units + 64 < cLine) : CallR X (.builtin "min") (rMinP X.K) := by
  intro pins s σ H vs us Q I r h
  obtain ⟨a, xs, p, ps, rfl, hs, hd, hr, q⟩ := h
  obtain ⟨its, rv, hl, hz⟩ := I.list hs
  rw [Vals.ref1 r]
  obtain ⟨as, ra⟩ := Dp.readsAll I _ _ its hd rv
  refine PySem.W.min_list_datum (α := Int × Str) (x := ipS p) (xs := ps.map ipS) (I.ok.hd hc) hl.isList ⟨as, ra⟩ (by show X.A.units + 1 + 1 < cLine; omega) fun i u h' tk hi hh hk => ?_
  have hi' : its[i]? = some u := by simpa using hi
  obtain ⟨p', e1, e2⟩ := readsAll_get ra i u hi'
  obtain ⟨v, ev, rl⟩ : ∃ v, xs[i]? = some v ∧ RelV v u := by
    have hl : i < xs.length := by rw [rv.length]; exact (List.getElem?_eq_some_iff.mp hi').1
    obtain ⟨u', e3, e4⟩ := rv.get (List.getElem?_eq_getElem hl)
    rw [hi'] at e3
    cases e3
    exact ⟨_, List.getElem?_eq_getElem hl, e4⟩
  obtain ⟨t, rfl⟩ := hr v (List.mem_of_getElem? ev)
  cases rl
  have eq := pair_uniq e2 hh hk
  rw [minIP_map] at eq
  refine ⟨.ref t, H, I.kept (t' := tk) hk, rfl, q i _ ev ?_⟩
  rw [List.getElem?_map] at e1
  cases e3 : (p :: ps)[i]? with
  | none => rw [e3] at e1; cases e1
  | some p2 =>
    rw [e3] at e1
    have e4 : ipS p2 = p' := Option.some.inj e1
    rw [← e4] at eq
    rw [ipS_inj eq]
def rSortedQ (K : PySem.W.Frag) : List V → Hp → VK → Prop := fun vs H Q => ∃ a, ∃ bs : List (V × (Int × Str)), vs = [V.ref a] ∧ SqL K H a (bs.map (·.1)) ∧ DpAll K H (bs.map (·.1)) (bs.map fun b => PySem.W.Datum.toD b.2) ∧ bs.length ≤ sizeLine ∧
  ∀ l, H l = none → Q (.ref l) (upd H l (.lst ((bs.mergeSort (PySem.W.dataLe false fun b => PySem.W.Datum.toD b.2)).map (·.1))))
theorem each_rel : ∀ {bs : List (V × (Int × Str))} {us : List Value}, Vals (bs.map (·.1)) us → PySem.W.EachIs (fun (u : Value) (b : V × (Int × Str)) => RelV b.1 u) us bs
  | [], _, r => by cases r; exact .nil
  | b :: bs, _, r => by
    cases r with
    | cons h r => exact .cons h (each_rel r)
theorem rel_each : ∀ {bs : List (V × (Int × Str))} {us : List Value}, PySem.W.EachIs (fun (u : Value) (b : V × (Int × Str)) => RelV b.1 u) us bs → Vals (bs.map (·.1)) us
  | _, _, .nil => .nil
  | _, _, .cons h r => .cons h (rel_each r)
theorem each_reads {h : Heap} : ∀ {bs : List (V × (Int × Str))} {us : List Value} {as : List Addr}, ReadsAll h us (bs.map fun b => PySem.W.Datum.toD b.2) as → PySem.W.EachIs (fun (u : Value) (b : V × (Int × Str)) => ∃ as, Reads h u (PySem.W.Datum.toD b.2) as) us bs
  | [], _, _, r => by cases r; exact .nil
  | b :: bs, _, _, r => by
    cases r with
    | cons r1 r2 => exact .cons ⟨_, r1⟩ (each_reads r2)
theorem cr_sortedQ (hc : X.calm = true) (hu : X.A.units + 64 < cLine) : CallR X (.builtin "sorted") (rSortedQ X.K) := by
  intro pins s σ H vs us Q I r h
  obtain ⟨a, bs, rfl, hs, hd, hz, q⟩ := h
  obtain ⟨its, rv, hl, _⟩ := I.list hs
  rw [Vals.ref1 r]
  obtain ⟨as, ra⟩ := Dp.readsAll I _ _ its hd rv
  refine PySem.W.sorted_data (enc := fun b : V × (Int × Str) => PySem.W.Datum.toD b.2) hl.isList (each_rel rv) (each_reads ra) (fun d hd d' hd' => ?_) (PySem.W.Sortable.tuples fun b => ⟨_, _, rfl⟩) hz (fun b hb => by show X.A.units + 2 + 1 < cLine; omega) fun out ho eo => ?_
  · obtain ⟨b, _, rfl⟩ := List.mem_map.mp hd
    obtain ⟨b', _, rfl⟩ := List.mem_map.mp hd'
    exact PySem.W.DatumOrd.alike b.2 b'.2
  · obtain ⟨c, hc⟩ := PyProof.Rows.sortedAll_at s.heap its out.toArray
    have hl2 : ((bs.mergeSort (PySem.W.dataLe false fun b => PySem.W.Datum.toD b.2)).map (·.1)).length ≤ sizeLine := by
      rw [List.length_map, List.length_mergeSort]; exact hz
    exact ⟨.ref _, _, I.laid (t' := s.toks) (o := .lst _) (fun _ _ => PyProof.Rows.sortedAll_old) (Nat.le_succ _) ⟨hl2, out, c, rel_each eo, hc⟩, rfl, q _ (I.hok.fresh (Nat.le_succ _))⟩

/-! ### on data -/
variable {ha : HA} {H G : Hp}
theorem rps_ip : ∀ {ps : List IP} {vs : List V}, Rps K ha G (ps.map ipV) vs → DpAll K G vs ((ps.map ipS).map PySem.W.Datum.toD) ∧ ∀ x ∈ vs, ∃ t, x = V.ref t
  | [], _, r => by cases r; exact ⟨.nil, fun x h => by cases h⟩
  | p :: ps, _, r => by
    cases r with
    | cons h r =>
      obtain ⟨i1, i2⟩ := rps_ip r
      cases h with
      | tup hs rr =>
        refine ⟨.cons ?_ i1, fun x hx => ?_⟩
        · refine .tup hs ?_
          cases rr with
          | cons r1 rr =>
            cases rr with
            | cons r2 rr =>
              cases rr
              cases r1
              cases r2
              exact .cons (.int _) (.cons (.str _) .nil)
        · rcases List.mem_cons.mp hx with rfl | hx
          · exact ⟨_, rfl⟩
          · exact i2 x hx
theorem minP_ok : CallD K (rMinP K) minPD := by
  intro ha H G ds vs z Q e le ng r q
  unfold minPD at e
  split at e
  · rename_i ds
    obtain ⟨v, rfl, r1⟩ := rvs1 r
    obtain ⟨a, ws, rfl, h, rr⟩ := rv_lst r1 le
    split at e
    · rename_i p ps e1
      cases e
      have e2 := ipsD_eq e1
      subst e2
      obtain ⟨i1, i2⟩ := rps_ip (rr.le le)
      refine ⟨a, ws, p, ps, rfl, .of h, i1, i2, fun i v h1 h2 => ?_⟩
      obtain ⟨v', h3, h4⟩ := rr.get (i := i) (d := ipV (minIP p ps)) (by rw [List.getElem?_map, h2]; rfl)
      rw [h1] at h3
      cases h3
      exact q _ H G (New.refl le ng) h4
    · cases e
  · cases e
theorem rps_of : ∀ {bs : List (V × D)}, (∀ b ∈ bs, Rp K ha G b.2 b.1) → Rps K ha G (bs.map (·.2)) (bs.map (·.1))
  | [], _ => .nil
  | b :: bs, h => .cons (h b (by simp)) (rps_of fun c hc => h c (by simp [hc]))
theorem rps_zip : ∀ {ps : List IP} {vs : List V}, Rps K ha G (ps.map ipV) vs → ∃ bs : List (V × IP), bs.map (·.1) = vs ∧ bs.map (·.2) = ps ∧ ∀ b ∈ bs, Rp K ha G (ipV b.2) b.1
  | [], _, r => by cases r; exact ⟨[], rfl, rfl, fun b h => by cases h⟩
  | p :: ps, _, r => by
    cases r with
    | cons h r =>
      obtain ⟨bs, e1, e2, e3⟩ := rps_zip r
      refine ⟨(_, p) :: bs, by rw [← e1]; rfl, by rw [← e2]; rfl, fun b hb => ?_⟩
      rcases List.mem_cons.mp hb with rfl | hb
      · exact h
      · exact e3 b hb
theorem dataLe_ip (p q : IP) : PySem.W.dataLe false (fun b : Int × Str => PySem.W.Datum.toD b) (ipS p) (ipS q) = leIP p q := by
  show (!PySem.W.dataLt (PySem.W.Datum.toD (ipS q)) (PySem.W.Datum.toD (ipS p))) = leIP p q
  rw [PySem.W.DatumOrd.lt_eq, ipLt_eq]
  rfl
theorem sortedQ_ok : CallLs K (rSortedQ K) sortedQD := by
  intro ha H G ds vs z Q e le r q
  unfold sortedQD at e
  split at e
  · rename_i ds
    obtain ⟨v, rfl, r1⟩ := rvs1 r
    obtain ⟨a, ws, rfl, h, rr⟩ := rv_lst r1 le
    split at e
    · rename_i ps e1
      obtain ⟨hl, rfl⟩ := if_some e
      have e2 := ipsD_eq e1
      subst e2
      obtain ⟨i1, _⟩ := rps_ip (rr.le le)
      obtain ⟨bs, b1, b2, b3⟩ := rps_zip rr
      have m1 : (bs.map fun b => (b.1, ipS b.2)).map (·.1) = ws := by rw [List.map_map, ← b1]; rfl
      have m2 : ((bs.map fun b => (b.1, ipS b.2)).map fun b => PySem.W.Datum.toD b.2) = (ps.map ipS).map PySem.W.Datum.toD := by
        rw [List.map_map, ← b2, List.map_map, List.map_map]; rfl
      refine ⟨a, bs.map fun b => (b.1, ipS b.2), rfl, by rw [m1]; exact .of h, by rw [m1, m2]; exact i1, ?_, fun l hl => ?_⟩
      · rw [List.length_map, ← List.length_map (f := (·.2)) (as := bs), b2]; exact hl
      have s1 : ((bs.map fun b => (b.1, ipS b.2)).mergeSort (PySem.W.dataLe false fun b => PySem.W.Datum.toD b.2)) = (bs.mergeSort fun x y => leIP x.2 y.2).map fun b => (b.1, ipS b.2) := by
        rw [List.map_mergeSort]
        intro x _ y _
        exact (dataLe_ip x.2 y.2).symm
      have s2 : (ps.mergeSort leIP) = (bs.mergeSort fun x y => leIP x.2 y.2).map (·.2) := by
        rw [← b2, List.map_mergeSort]
        intro x _ y _
        rfl
      rw [s1, List.map_map]
      refine q l _ ((ps.mergeSort leIP).map ipV) hl rfl ?_
      rw [s2, List.map_map]
      have := rps_of (K := K) (ha := ha) (G := G) (bs := (bs.mergeSort fun x y => leIP x.2 y.2).map fun b => (b.1, ipV b.2)) (fun b hb => by
        obtain ⟨c, hc, rfl⟩ := List.mem_map.mp hb
        exact b3 c (List.mem_mergeSort.mp hc))
      rw [List.map_map, List.map_map] at this
      exact this
    · cases e
  · cases e
end
end DL

set_option Elab.async false
set_option linter.all false
set_option maxRecDepth 100000
set_option maxHeartbeats 4000000
/-! zip of a text in ASCII and a tuple -/
namespace DL
open PySem PySem.Spec PyProof.Rows L2
open PySem.Sem (wp)
section
variable {P : Program} {w : World} {A : Around} {E : Value → Shared → Prop} {s : Shared}
theorem nx_sign {it : Addr} {x : Str} {t : Tok} {i c : Nat} {Q : Value → Shared → Prop} (hit : s.heap.IsStrIter it "str_ascii_iterator" x t i) (hx : x.cps[i]? = some c)
    (q : ∀ g, g.IsStrIter it "str_ascii_iterator" x t (i + 1) → Heap.SameBut it s.heap g → Q (.str ⟨#[c]⟩ s.toks) { s with heap := g, toks := s.toks + 1 }) :
    wpAny (model P w) A (Builtin.SmallTypes.nextOf (.ref it)) Q E s := by
  obtain ⟨o, eo, ec, ed⟩ := id hit
  unfold Builtin.SmallTypes.nextOf
  refine wpAny_bind (wpAny_callSpecial?_slot (name := Str.ofString "__next__") hit.typeIs F.slot_str_ascii_iterator_next (wpAny_call_entry F.slot_str_ascii_iterator_next hit.typeIs F.entry_str_ascii_iterator_next ?_ (F.args_str_ascii_iterator_next_1 _)))
  show wpAny _ _ (field (.ref it) 0 >>= _) _ _ s
  refine wpAny_bind (wpAny_field eo ed (x := .str x t) rfl ?_)
  show wpAny _ _ (field (.ref it) 1 >>= _) _ _ s
  refine wpAny_bind (wpAny_field eo ed (x := .int i 0) rfl ?_)
  simp only [Int.toNat_natCast, hx]
  refine wpAny_bind (wpAny_setField eo ed (by simp) (wpAny_bind (wpAny_mkStr (wpAny_pure ⟨_, rfl, wpAny_pure (q _ ⟨_, Heap.get?_update_self _ eo (Obj.isFreed_of_fields (Obj.data_mapFields ed _)), (Obj.cls_mapFields ..).trans ec, ?_⟩ (Heap.SameBut.update ..))⟩) (by show 1 ≤ sizeLine; decide))))
  rw [Obj.data_mapFields ed]
  simp [rawInt]
theorem nx_sign_end {it : Addr} {x : Str} {t : Tok} {i : Nat} {Q : Value → Shared → Prop} (hh : A.handled = none) (hit : s.heap.IsStrIter it "str_ascii_iterator" x t i) (hx : x.cps[i]? = none)
    (q : ∀ g e, Heap.ExtBut it s.heap g → (∃ o, g.get? e = some o ∧ o.cls = .type "StopIteration") → E (.ref e) { s with heap := g }) :
    wpAny (model P w) A (Builtin.SmallTypes.nextOf (.ref it)) Q E s := by
  obtain ⟨o, eo, ec, ed⟩ := id hit
  unfold Builtin.SmallTypes.nextOf
  refine wpAny_bind (wpAny_callSpecial?_slot (name := Str.ofString "__next__") hit.typeIs F.slot_str_ascii_iterator_next (wpAny_call_entry F.slot_str_ascii_iterator_next hit.typeIs F.entry_str_ascii_iterator_next ?_ (F.args_str_ascii_iterator_next_1 _)))
  show wpAny _ _ (field (.ref it) 0 >>= _) _ _ s
  refine wpAny_bind (wpAny_field eo ed (x := .str x t) rfl ?_)
  show wpAny _ _ (field (.ref it) 1 >>= _) _ _ s
  refine wpAny_bind (wpAny_field eo ed (x := .int i 0) rfl ?_)
  simp only [Int.toNat_natCast, hx]
  refine wpAny_bind (wpAny_rule (wpAny_bind (wpAny_setField eo ed (by simp) (wpAny_bind (wpAny_letGo ?_)))))
  show wpAny _ _ (newExc (.type "StopIteration") [] >>= _) _ _ _
  refine wpAny_bind ?_
  simp only [newExc, newTuple]
  refine wpAny_bind (wpAny_newObj_type (wpAny_bind (m := firstArgMember _ _) (wpAny_of_eq (a := Value.none) (by first | rfl | (simp only [firstArgMember]; rfl)) (wpAny_newObj_type ?_ (by size_fits)))) (by size_fits))
  simp only [raiseNew]
  refine wpAny_bind (wpAny_handled ?_)
  first | rw [show A.in1.handled = none from hh] | rw [hh]
  exact wpAny_bind (wpAny_pure (wpAny_throw (q _ _ (((Heap.SameBut.update ..).extBut.push _).push _) ⟨_, Heap.get?_push_size _ rfl, rfl⟩)))

theorem zs_item {z TI TO i1 i2 l2 : Addr} {tx : Str} {tt : Tok} {k1 k2 c : Nat} {ys : Array Value} {y a b : Value} {Q : Value → Shared → Prop} (D : ZipApart z TI TO i1 i2 l2 l2)
    (hz : IsZip s.heap z TI TO .none) (hTI : IsPair s.heap TI (.ref i1) (.ref i2)) (hTO : IsPair s.heap TO a b)
    (n1 : s.heap.IsStrIter i1 "str_ascii_iterator" tx tt k1) (n2 : s.heap.IsTupleIter i2 l2 k2) (m2 : s.heap.IsTuple l2 ys) (hx : tx.cps[k1]? = some c) (hy : ys[k2]? = some y)
    (q : ∀ g, IsZip g z TI TO (rawInt s.heap.objs.size) → IsPair g TO (.str ⟨#[c]⟩ s.toks) y → g.IsStrIter i1 "str_ascii_iterator" tx tt (k1 + 1) → g.IsTupleIter i2 l2 (k2 + 1) → IsPair g s.heap.objs.size (.str ⟨#[c]⟩ s.toks) y → g.objs.size = s.heap.objs.size + 1 →
      (∀ j o, j ≠ z → j ≠ TO → j ≠ i1 → j ≠ i2 → s.heap.get? j = some o → g.get? j = some o) → Q (.ref s.heap.objs.size) { s with heap := g, toks := s.toks + 1 }) :
    wpAny (model P w) A (Builtin.«zip.__next__» ⟨[.ref z], []⟩) (fun fin s' => ∃ v, fin = .done (.ret v) ∧ Q v s') E s := by
  show wpAny _ _ (field (.ref z) 2 >>= _) _ _ _
  refine wpAny_bind (wpAny_field hz rfl (x := .bool false) rfl ?_)
  show wpAny _ _ (field (.ref z) 3 >>= _) _ _ _
  refine wpAny_bind (wpAny_field hz rfl (x := .ref TI) rfl (wpAny_bind (wpAny_seqItems hTI rfl ?_)))
  show wpAny _ _ (Builtin.SmallTypes.ownedTupleIsFree (.ref z) >>= _) _ _ _
  refine wpAny_bind ?_
  unfold Builtin.SmallTypes.ownedTupleIsFree
  refine wpAny_bind (wpAny_field hz rfl (x := .none) rfl (wpAny_pure ?_))
  simp only [if_true]
  refine wpAny_bind (wpAny_rule (wpAny_bind (wpAny_field hz rfl (x := .ref TO) rfl (wpAny_bind (wpAny_setField_rec hz (by simp) fun g1 z1 b1 => ?_)))))
  replace z1 : IsZip g1 z TI TO .ellipsis := z1
  refine wpAny_bind ?_
  simp only [List.zipIdx_cons, List.zipIdx_nil, List.forIn_cons, List.forIn_nil]
  refine wpAny_bind (wpAny_bind (wpAny_onRaise ?_))
  show wpAny _ _ (Builtin.SmallTypes.nextOf (.ref i1) >>= _) _ _ _
  refine wpAny_bind (nx_sign (n1.extBut b1.extBut D.i1z) hx fun g2 p2 b2 => wpAny_pure ?_)
  have T2 : IsPair g2 TO a b := b2.extBut _ _ D.TOi1 (b1.extBut _ _ D.TOz hTO)
  refine wpAny_bind (wpAny_seqItems T2 rfl (wpAny_bind (wpAny_updateSeq_pair T2 fun g3 T3 b3 => ?_)))
  replace T3 : IsPair g3 TO (.str ⟨#[c]⟩ s.toks) b := T3
  refine wpAny_bind (wpAny_letGo (wpAny_pure (wpAny_bind (wpAny_bind (wpAny_onRaise ?_)))))
  show wpAny _ _ (Builtin.SmallTypes.nextOf (.ref i2) >>= _) _ _ _
  refine wpAny_bind (RZ.nextOf_tuple_item (((n2.extBut b1.extBut D.i2z).extBut b2.extBut D.i12.symm).extBut b3.extBut D.TOi2.symm) (((m2.extBut b1.extBut D.l2z).extBut b2.extBut D.l2i1).extBut b3.extBut D.l2TO) hy fun g4 p4 b4 => wpAny_pure ?_)
  have T4 : IsPair g4 TO (.str ⟨#[c]⟩ s.toks) b := b4.extBut _ _ D.TOi2 T3
  refine wpAny_bind (wpAny_seqItems T4 rfl (wpAny_bind (wpAny_updateSeq_pair T4 fun g5 T5 b5 => ?_)))
  replace T5 : IsPair g5 TO (.str ⟨#[c]⟩ s.toks) y := T5
  refine wpAny_bind (wpAny_letGo (wpAny_pure (wpAny_pure (wpAny_bind (wpAny_seqItems T5 rfl (wpAny_bind (wpAny_newTuple ?_)))))))
  have sz : g5.objs.size = s.heap.objs.size := by rw [b5.1, b4.1, b3.1, b2.1, b1.1]
  have z5 : IsZip g5 z TI TO .ellipsis := b5.extBut _ _ D.TOz.symm (b4.extBut _ _ D.i2z.symm (b3.extBut _ _ D.TOz.symm (b2.extBut _ _ D.i1z.symm z1)))
  have k5 : ∀ j o, j ≠ z → j ≠ TO → j ≠ i1 → j ≠ i2 → s.heap.get? j = some o → g5.get? j = some o := fun j o c1 c2 c3 c4 e => b5.extBut _ _ c2 (b4.extBut _ _ c4 (b3.extBut _ _ c2 (b2.extBut _ _ c3 (b1.extBut _ _ c1 e))))
  have p5 : g5.IsStrIter i1 "str_ascii_iterator" tx tt (k1 + 1) := ((p2.extBut b3.extBut D.TOi1.symm).extBut b4.extBut D.i12).extBut b5.extBut D.TOi1.symm
  have r5 : g5.IsTupleIter i2 l2 (k2 + 1) := p4.extBut b5.extBut D.TOi2.symm
  have zlt : z < g5.objs.size := Heap.lt_size z5
  show wpAny _ _ (Builtin.SmallTypes.ownedTupleHandOut (.ref z) (.ref g5.objs.size) >>= _) _ _ _
  refine wpAny_bind ?_
  unfold Builtin.SmallTypes.ownedTupleHandOut
  have z6 : IsZip (g5.push { cls := .type "tuple", data := .seq #[(.str ⟨#[c]⟩ s.toks), y] }) z TI TO .ellipsis := Heap.get?_push_of_some _ z5
  refine wpAny_bind (wpAny_setField_rec z6 (by simp) fun g7 z7 b7 => ?_)
  replace z7 : IsZip g7 z TI TO (rawInt g5.objs.size) := z7
  refine wpAny_setField_rec z7 (by simp) fun g8 z8 b8 => ?_
  replace z8 : IsZip g8 z TI TO (rawInt g5.objs.size) := z8
  have up : ∀ j o, j ≠ z → g5.get? j = some o → g8.get? j = some o := fun j o c1 e => b8.extBut _ _ c1 (b7.extBut _ _ c1 (Heap.get?_push_of_some _ e))
  have T8 : IsPair g8 g5.objs.size (.str ⟨#[c]⟩ s.toks) y := b8.extBut _ _ (Nat.ne_of_gt zlt) (b7.extBut _ _ (Nat.ne_of_gt zlt) (Heap.get?_push_size _ rfl))
  have y8 : g8.objs.size = g5.objs.size + 1 := by rw [b8.1, b7.1, Heap.size_push]
  rw [sz] at z8 T8 y8
  refine wpAny_pure ⟨_, rfl, ?_⟩
  show Q (.ref g5.objs.size) _
  rw [sz]
  exact q g8 z8 (up _ _ D.TOz T5) (let ⟨o, e1, e2⟩ := p5; ⟨o, up _ o D.i1z e1, e2⟩) (r5.at fun o e => up _ o D.i2z e) T8 y8 fun j o c1 c2 c3 c4 e => up j o c1 (k5 j o c1 c2 c3 c4 e)

theorem zs_end {z TI TO i1 i2 l2 : Addr} {tx : Str} {tt : Tok} {k1 k2 : Nat} {ys : Array Value} {a b : Value} {Q : Fin → Shared → Prop} (hh : A.handled = none) (D : ZipApart z TI TO i1 i2 l2 l2)
    (hz : IsZip s.heap z TI TO .none) (hTI : IsPair s.heap TI (.ref i1) (.ref i2)) (hTO : IsPair s.heap TO a b)
    (n1 : s.heap.IsStrIter i1 "str_ascii_iterator" tx tt k1) (n2 : s.heap.IsTupleIter i2 l2 k2) (m2 : s.heap.IsTuple l2 ys) (hend : tx.cps[k1]? = none ∨ ys[k2]? = none)
    (q : ∀ g tk e, (∀ j o, j ≠ z → j ≠ TO → j ≠ i1 → j ≠ i2 → s.heap.get? j = some o → g.get? j = some o) → (∃ o, g.get? e = some o ∧ o.cls = .type "StopIteration") → E (.ref e) { s with heap := g, toks := tk }) :
    wpAny (model P w) A (Builtin.«zip.__next__» ⟨[.ref z], []⟩) Q E s := by
  show wpAny _ _ (field (.ref z) 2 >>= _) _ _ _
  refine wpAny_bind (wpAny_field hz rfl (x := .bool false) rfl ?_)
  show wpAny _ _ (field (.ref z) 3 >>= _) _ _ _
  refine wpAny_bind (wpAny_field hz rfl (x := .ref TI) rfl (wpAny_bind (wpAny_seqItems hTI rfl ?_)))
  show wpAny _ _ (Builtin.SmallTypes.ownedTupleIsFree (.ref z) >>= _) _ _ _
  refine wpAny_bind ?_
  unfold Builtin.SmallTypes.ownedTupleIsFree
  refine wpAny_bind (wpAny_field hz rfl (x := .none) rfl (wpAny_pure ?_))
  simp only [if_true]
  refine wpAny_bind (wpAny_rule (wpAny_bind (wpAny_field hz rfl (x := .ref TO) rfl (wpAny_bind (wpAny_setField_rec hz (by simp) fun g1 z1 b1 => ?_)))))
  replace z1 : IsZip g1 z TI TO .ellipsis := z1
  refine wpAny_bind ?_
  simp only [List.zipIdx_cons, List.zipIdx_nil, List.forIn_cons, List.forIn_nil]
  refine wpAny_bind (wpAny_bind (wpAny_onRaise ?_))
  show wpAny _ _ (Builtin.SmallTypes.nextOf (.ref i1) >>= _) _ _ _
  cases hx : tx.cps[k1]? with
  | none =>
    refine wpAny_bind (nx_sign_end hh (n1.extBut b1.extBut D.i1z) hx fun g2 e b2 he => ?_)
    obtain ⟨oe, hoe, hce⟩ := he
    have z2 : IsZip g2 z TI TO .ellipsis := b2 _ _ D.i1z.symm z1
    have ne : e ≠ z := fun u => by subst u; rw [z2] at hoe; cases hoe; simp at hce
    exact wpAny_setField_rec z2 (by simp) fun g3 _ b3 => q g3 _ e (fun j o c1 _ c3 _ u => b3.extBut _ _ c1 (b2 _ _ c3 (b1.extBut _ _ c1 u))) ⟨oe, b3.extBut _ _ ne hoe, hce⟩
  | some c =>
    have hy : ys[k2]? = none := by
      rcases hend with h | h
      · rw [hx] at h; cases h
      · exact h
    refine wpAny_bind (nx_sign (n1.extBut b1.extBut D.i1z) hx fun g2 p2 b2 => wpAny_pure ?_)
    have T2 : IsPair g2 TO a b := b2.extBut _ _ D.TOi1 (b1.extBut _ _ D.TOz hTO)
    refine wpAny_bind (wpAny_seqItems T2 rfl (wpAny_bind (wpAny_updateSeq_pair T2 fun g3 T3 b3 => wpAny_bind (wpAny_letGo (wpAny_pure (wpAny_bind (wpAny_bind (wpAny_onRaise ?_))))))))
    show wpAny _ _ (Builtin.SmallTypes.nextOf (.ref i2) >>= _) _ _ _
    refine wpAny_bind (RZ.nextOf_tuple_end hh (((n2.extBut b1.extBut D.i2z).extBut b2.extBut D.i12.symm).extBut b3.extBut D.TOi2.symm) (((m2.extBut b1.extBut D.l2z).extBut b2.extBut D.l2i1).extBut b3.extBut D.l2TO) hy fun g4 e b4 he => ?_)
    obtain ⟨oe, hoe, hce⟩ := he
    have z4 : IsZip g4 z TI TO .ellipsis := b4 _ _ D.i2z.symm (b3.extBut _ _ D.TOz.symm (b2.extBut _ _ D.i1z.symm z1))
    have ne : e ≠ z := fun u => by subst u; rw [z4] at hoe; cases hoe; simp at hce
    exact wpAny_setField_rec z4 (by simp) fun g5 _ b5 => q g5 _ e (fun j o c1 c2 c3 c4 u => b5.extBut _ _ c1 (b4 _ _ c4 (b3.extBut _ _ c2 (b2.extBut _ _ c3 (b1.extBut _ _ c1 u))))) ⟨oe, b5.extBut _ _ ne hoe, hce⟩

theorem zs_next {z TI TO i1 i2 l2 : Addr} {tx : Str} {tt : Tok} {k1 k2 c : Nat} {ys : Array Value} {y a b : Value} {Q : Option Value → Shared → Prop} (D : ZipApart z TI TO i1 i2 l2 l2)
    (hz : IsZip s.heap z TI TO .none) (hTI : IsPair s.heap TI (.ref i1) (.ref i2)) (hTO : IsPair s.heap TO a b)
    (n1 : s.heap.IsStrIter i1 "str_ascii_iterator" tx tt k1) (n2 : s.heap.IsTupleIter i2 l2 k2) (m2 : s.heap.IsTuple l2 ys) (hx : tx.cps[k1]? = some c) (hy : ys[k2]? = some y)
    (q : ∀ g, IsZip g z TI TO (rawInt s.heap.objs.size) → IsPair g TO (.str ⟨#[c]⟩ s.toks) y → g.IsStrIter i1 "str_ascii_iterator" tx tt (k1 + 1) → g.IsTupleIter i2 l2 (k2 + 1) → IsPair g s.heap.objs.size (.str ⟨#[c]⟩ s.toks) y → g.objs.size = s.heap.objs.size + 1 →
      (∀ j o, j ≠ z → j ≠ TO → j ≠ i1 → j ≠ i2 → s.heap.get? j = some o → g.get? j = some o) → Q (some (.ref s.heap.objs.size)) { s with heap := g, toks := s.toks + 1 }) :
    wpAny (model P w) A (pyNext (.ref z)) Q E s := by
  have hT : s.TypeIs (.ref z) "zip" := ⟨_, hz, rfl⟩
  unfold pyNext
  exact wpAny_bind (wpAny_attempt (wpAny_callSpecial?_slot (name := Str.ofString "__next__") hT F.slot_zip_next (wpAny_call_entry F.slot_zip_next hT F.entry_zip_next
    (zs_item D hz hTI hTO n1 n2 m2 hx hy fun g a1 a2 a3 a4 a5 a6 a7 => wpAny_pure (q g a1 a2 a3 a4 a5 a6 a7)) (F.args_zip_next_1 _))))
theorem zs_done {z TI TO i1 i2 l2 : Addr} {tx : Str} {tt : Tok} {k1 k2 : Nat} {ys : Array Value} {a b : Value} {Q : Option Value → Shared → Prop} (hh : A.handled = none) (D : ZipApart z TI TO i1 i2 l2 l2)
    (hz : IsZip s.heap z TI TO .none) (hTI : IsPair s.heap TI (.ref i1) (.ref i2)) (hTO : IsPair s.heap TO a b)
    (n1 : s.heap.IsStrIter i1 "str_ascii_iterator" tx tt k1) (n2 : s.heap.IsTupleIter i2 l2 k2) (m2 : s.heap.IsTuple l2 ys) (hend : tx.cps[k1]? = none ∨ ys[k2]? = none)
    (q : ∀ g tk, (∀ j o, j ≠ z → j ≠ TO → j ≠ i1 → j ≠ i2 → s.heap.get? j = some o → g.get? j = some o) → Q none { s with heap := g, toks := tk }) : wpAny (model P w) A (pyNext (.ref z)) Q E s := by
  have hT : s.TypeIs (.ref z) "zip" := ⟨_, hz, rfl⟩
  unfold pyNext
  refine wpAny_bind (wpAny_attempt (wpAny_callSpecial?_slot (name := Str.ofString "__next__") hT F.slot_zip_next (wpAny_call_entry F.slot_zip_next hT F.entry_zip_next
    (zs_end hh D hz hTI hTO n1 n2 m2 hend fun g tk e kk he => ?_) (F.args_zip_next_1 _))))
  obtain ⟨o, ho, hc⟩ := he
  exact wpAny_bind (wpAny_isInstance (T := "StopIteration") (b := true) ⟨o, ho, hc⟩ isSubtype_stop (wpAny_pure (q _ _ kk)))
end
abbrev zsH1 (h : Heap) (x : Str) (t : Tok) : Heap := h.push { cls := .type "str_ascii_iterator", data := .fields #[.str x t, .int 0 0] }
abbrev zsH2 (h : Heap) (x : Str) (t : Tok) (l2 : Addr) : Heap := (zsH1 h x t).push { cls := .type "tuple_iterator", data := .fields #[.ref l2, .int 0 0] }
abbrev zsH3 (h : Heap) (x : Str) (t : Tok) (l2 : Addr) : Heap := (zsH2 h x t l2).push { cls := .type "tuple", data := .seq #[.ref h.objs.size, .ref (zsH1 h x t).objs.size] }
abbrev zsH4 (h : Heap) (x : Str) (t : Tok) (l2 : Addr) : Heap := (zsH3 h x t l2).push { cls := .type "tuple", data := .seq #[.none, .none] }
abbrev zsH5 (h : Heap) (x : Str) (t : Tok) (l2 : Addr) : Heap := (zsH4 h x t l2).push { cls := .type "zip", data := .fields #[.none, .bool false, .bool false, .ref (zsH2 h x t l2).objs.size, .ref (zsH3 h x t l2).objs.size] }
theorem zs_new (x : Str) (t : Tok) (l2 : Addr) (ys : Array Value) (ha : x.cps.all (· < 128) = true) :
    Meets (Builtin.«zip.__new__» ⟨[.type "zip", .str x t, .ref l2], []⟩) (fun _ R s => s.heap.IsTuple l2 ys ∧ R (.ok (.ret (.ref (zsH4 s.heap x t l2).objs.size))) { s with heap := zsH5 s.heap x t l2 }) :=
  .of_wp fun prog w A R s h => by
    obtain ⟨hp, g, d, tk, os⟩ := s
    obtain ⟨m2, h⟩ := h
    have hsub := sub_zip
    have L2 : Heap.IsTuple (Shared.heap ⟨hp.push { cls := .type "str_ascii_iterator", data := .fields #[.str x t, .int 0 0] }, g, d, tk, os⟩) l2 ys := Heap.IsTuple.push m2 _
    wp_walk using wpAny_pyIter_ascii ha, wpAny_pyIter_tuple L2
    exact ⟨_, rfl, h⟩
end DL

set_option Elab.async false
set_option linter.all false
set_option maxRecDepth 100000
set_option maxHeartbeats 4000000
namespace DL
open PySem PySem.Spec PyProof.Rows L2
section
variable {prog : Program} {w : World} {A : Around} {E : Value → Shared → Prop} {s : Shared}
theorem zs_call {x : Str} {t : Tok} {l2 : Addr} {ys : Array Value} {Q : Value → Shared → Prop} (ha : x.cps.all (· < 128) = true) (m2 : s.heap.IsTuple l2 ys)
    (q : ∀ g, IsZip g (s.heap.objs.size + 4) (s.heap.objs.size + 2) (s.heap.objs.size + 3) .none → IsPair g (s.heap.objs.size + 2) (.ref s.heap.objs.size) (.ref (s.heap.objs.size + 1)) →
      IsPair g (s.heap.objs.size + 3) .none .none → g.IsStrIter s.heap.objs.size "str_ascii_iterator" x t 0 → g.IsTupleIter (s.heap.objs.size + 1) l2 0 →
      (∀ c o, s.heap.get? c = some o → g.get? c = some o) → Q (.ref (s.heap.objs.size + 4)) { s with heap := g }) :
    wpAny (model prog w) A (call (.type "zip") [.str x t, .ref l2]) Q E s := by
  refine callType_new F.called_zip (by decide) (F.typeCall_zip_2 _ _) (F.newCall_zip_2 _ _) (fun obj => F.args_object_init_3 obj _ _) F.entry_zip_new (zs_new x t l2 ys ha) ⟨m2, ?_⟩
  have a1 : (zsH1 s.heap x t).objs.size = s.heap.objs.size + 1 := Heap.size_push ..
  have a2 : (zsH2 s.heap x t l2).objs.size = s.heap.objs.size + 2 := by rw [Heap.size_push, a1]
  have a3 : (zsH3 s.heap x t l2).objs.size = s.heap.objs.size + 3 := by rw [Heap.size_push, a2]
  have a4 : (zsH4 s.heap x t l2).objs.size = s.heap.objs.size + 4 := by rw [Heap.size_push, a3]
  have e5 : (zsH5 s.heap x t l2).get? (zsH4 s.heap x t l2).objs.size = some _ := Heap.get?_push_size _ rfl
  have e4 : (zsH5 s.heap x t l2).get? (zsH3 s.heap x t l2).objs.size = some _ := Heap.get?_push_of_some _ (Heap.get?_push_size _ rfl)
  have e3 : (zsH5 s.heap x t l2).get? (zsH2 s.heap x t l2).objs.size = some _ := Heap.get?_push_of_some _ (Heap.get?_push_of_some _ (Heap.get?_push_size _ rfl))
  have e2 : (zsH5 s.heap x t l2).get? (zsH1 s.heap x t).objs.size = some _ := Heap.get?_push_of_some _ (Heap.get?_push_of_some _ (Heap.get?_push_of_some _ (Heap.get?_push_size _ rfl)))
  have e1 : (zsH5 s.heap x t l2).get? s.heap.objs.size = some _ := Heap.get?_push_of_some _ (Heap.get?_push_of_some _ (Heap.get?_push_of_some _ (Heap.get?_push_of_some _ (Heap.get?_push_size _ rfl))))
  show _ ∧ _
  rw [a2, a3, a4] at e5
  rw [a1, a2] at e3
  rw [a3] at e4
  rw [a1] at e2
  rw [a4]
  exact ⟨⟨_, e5, rfl⟩, q _ e5 e3 e4 ⟨_, e1, rfl, rfl⟩ ⟨_, e2, rfl, rfl⟩ fun c o u => Heap.get?_push_of_some _ (Heap.get?_push_of_some _ (Heap.get?_push_of_some _ (Heap.get?_push_of_some _ (Heap.get?_push_of_some _ u))))⟩
end
/-- the text's signs and the tuple at b, in new pairs -/
def ItzS (K : PySem.W.Frag) (x : Str) (b : Addr) : It :=
  ⟨fun i H => ∃ (ys : List V) (c : Nat) (y : V), SqT K H b ys ∧ x.cps[i]? = some c ∧ ys[i]? = some y,
    fun i H v H' => ∃ T c y, v = .ref T ∧ H T = none ∧ H' = upd H T (.tup [.str ⟨#[c]⟩, y]) ∧ x.cps[i]? = some c ∧ ∀ ys, SqT K H b ys → ys[i]? = some y,
    fun i H => ∃ ys : List V, SqT K H b ys ∧ (x.cps.size ≤ i ∨ ys.length ≤ i)⟩
theorem turn_zs {P : Program} {w : World} {K : PySem.W.Frag} {elts : List Expr} {kk : Nat} {tpos : Pos} {x : Str} {t : Tok} {b z TI TO i1 i2 : Addr} (D : ZipApart z TI TO i1 i2 b b) :
    Turn P w K (.Tuple elts kk tpos) (ItzS K x b) [z, TI, TO, i1, i2] z (fun i h => IsZip h z TI TO .none ∧ IsPair h TI (.ref i1) (.ref i2) ∧ (∃ x y, IsPair h TO x y) ∧ h.IsStrIter i1 "str_ascii_iterator" x t i ∧ h.IsTupleIter i2 b i) where
  mem := by simp
  obj := fun i h st c hc => by
    obtain ⟨hz, hTI, ⟨_, _, hTO⟩, ⟨o1, e1, _, d1⟩, ⟨o2, e2, _, d2⟩⟩ := st
    have e' : c = z ∨ c = TI ∨ c = TO ∨ c = i1 ∨ c = i2 := by simpa using hc
    rcases e' with rfl | rfl | rfl | rfl | rfl
    · exact ⟨_, hz, fun v q => nomatch q⟩
    · exact ⟨_, hTI, fun v q => nomatch q⟩
    · exact ⟨_, hTO, fun v q => nomatch q⟩
    · exact ⟨o1, e1, fun v q => by rw [d1] at q; cases q⟩
    · exact ⟨o2, e2, fun v q => by rw [d2] at q; cases q⟩
  keep := fun i h h' st k => by
    obtain ⟨hz, hTI, ⟨u, v, hTO⟩, ⟨o1, e1, r1⟩, h2⟩ := st
    exact ⟨k z (by simp) _ hz, k TI (by simp) _ hTI, ⟨u, v, k TO (by simp) _ hTO⟩, ⟨o1, k i1 (by simp) _ e1, r1⟩, h2.at fun o q => k i2 (by simp) o q⟩
  item := by
    intro X hP hw hK hc i pins s σ H E I hf st hg
    subst hP hw hK
    obtain ⟨hz, hTI, ⟨x0, y0, hTO⟩, h1, h2⟩ := st
    obtain ⟨ys, c, y, hqy, hx, hy⟩ := hg
    obtain ⟨its2, rv2, p2, _⟩ := I.tuple hqy
    obtain ⟨u2, hu2, ru2⟩ := rv2.get hy
    have zlt : z < s.heap.objs.size := Heap.lt_size hz
    refine zs_next D hz hTI hTO h1 h2 p2 hx (y := u2) (by simpa using hu2) fun g a1 a2 a3 a4 a5 a6 a7 => ⟨_, rfl, wpAny_letOwnedTupleGo_zip (s := { s with heap := g, toks := s.toks + 1 }) a1 fun g2 z2 sb => ?_⟩
    have T2 : g2.get? s.heap.objs.size = some { cls := .type "tuple", data := .seq #[(.str ⟨#[c]⟩ s.toks), u2] } := (sb.2 _ (Nat.ne_of_gt zlt)).trans a5
    have new : ObjOk X.prog X.w (upd H s.heap.objs.size (.tup [.str ⟨#[c]⟩, y])) g2 s.heap.objs.size (.tup [.str ⟨#[c]⟩, y]) := ⟨by show 2 ≤ sizeLine; decide, [(.str ⟨#[c]⟩ s.toks), u2], .cons ⟨_, rfl⟩ (.cons ru2 .nil), ⟨_, T2, rfl, _, rfl⟩⟩
    have I1 : Inv X pins σ (upd H s.heap.objs.size (.tup [.str ⟨#[c]⟩, y])) { s with heap := g2, toks := s.toks + 1 } := I.turnedNew (t' := s.toks + 1) (ch := [z, TI, TO, i1, i2]) (fun d o hb q => (sb.2 d (fun q' => hb (by simp [q']))).trans (a7 d o (fun q' => hb (by simp [q'])) (fun q' => hb (by simp [q'])) (fun q' => hb (by simp [q'])) (fun q' => hb (by simp [q'])) q)) hf (Nat.le_refl _) new
    refine ⟨.ref s.heap.objs.size, _, I1, rfl, ⟨_, c, y, rfl, I.hok.fresh (Nat.le_refl _), rfl, hx, fun l hl => by rw [I.tuple_inj hl hqy]; exact hy⟩, ⟨z2, ?_, ⟨.str ⟨#[c]⟩ s.toks, u2, ?_⟩, ?_, ?_⟩, fun d hd => ?_⟩
    · exact (sb.2 _ D.TIz).trans (a7 _ _ D.TIz D.TITO D.TIi1 D.TIi2 hTI)
    · exact (sb.2 _ D.TOz).trans a2
    · obtain ⟨o, e1, e2⟩ := a3
      exact ⟨o, (sb.2 _ D.i1z).trans e1, e2⟩
    · exact a4.at fun o q => (sb.2 _ D.i2z).trans q
    · have lt : d < s.heap.objs.size := by
        obtain ⟨_, e1, _⟩ := h1
        obtain ⟨_, e2, _⟩ := h2
        have e' : d = z ∨ d = TI ∨ d = TO ∨ d = i1 ∨ d = i2 := by simpa using hd
        rcases e' with rfl | rfl | rfl | rfl | rfl
        · exact zlt
        · exact Heap.lt_size hTI
        · exact Heap.lt_size hTO
        · exact Heap.lt_size e1
        · exact Heap.lt_size e2
      rw [upd_ne (Nat.ne_of_lt lt)]
      exact (hf d hd).1
  done := by
    intro X hP hw hK hc i pins s σ H E I hf st hg
    subst hP hw hK
    obtain ⟨hz, hTI, ⟨x0, y0, hTO⟩, h1, h2⟩ := st
    obtain ⟨ys, hqy, hend⟩ := hg
    obtain ⟨its2, rv2, p2, _⟩ := I.tuple hqy
    have l2 := rv2.length
    have he : x.cps[i]? = none ∨ its2.toArray[i]? = none := by
      rcases hend with q | q
      · exact .inl (Array.getElem?_eq_none q)
      · exact .inr (by simp; omega)
    exact zs_done (I.ok.hd hc) D hz hTI hTO h1 h2 p2 he fun g tk kk => ⟨rfl, I.turnedL (t' := tk) (ch := [z, TI, TO, i1, i2]) (fun d o hb q => kk d o (fun q' => hb (by simp [q'])) (fun q' => hb (by simp [q'])) (fun q' => hb (by simp [q'])) (fun q' => hb (by simp [q'])) q) hf⟩
  self := fun A i s Q E st h => wpAny_pyIter_zip st.1 h
def iZipS (K : PySem.W.Frag) (ta : TA) : TI := fun σ H R => ta σ H fun vs H1 => ∃ x b ys, vs = [.str x, .ref b] ∧ x.cps.all (· < 128) = true ∧ SqT K H1 b ys ∧ R (ItzS K x b) H1
theorem pi_zipS {X : Cx} {e e2 : Expr} {ta : TA} {p pos tpos : Pos} {elts : List Expr} {kk : Nat} (hg : Gl X "zip") (hm : X.mg "zip" = none) (ha : PA X [e, e2] ta)
    (hs : starEach [e, e2] X.env = (false, eval e X.env) :: starEach [e2] X.env := by rfl) (hpl : (backTo pos (starEach [e2] X.env)).any (·.1) = false := by rfl) :
    PI X (.Tuple elts kk tpos) (.Call (.Name "zip" p) [e, e2] [] pos) (iZipS X.K ta) := by
  refine ⟨fun pins s σ H R I h => Call_ (ld_blt I hg hm PyProof.Rows.boot_zip (PyProof.Rows.callWith_type1 (thn (ha.run pos pins s σ H _ I h) fun us s1 ⟨vs, H1, I1, r1, q1⟩ => ?_) hs hpl))⟩
  obtain ⟨x, b, ys, rfl, hx, hqy, q⟩ := q1
  cases r1 with
  | cons r rr =>
    cases rr with
    | cons r' rr =>
      cases rr
      obtain ⟨t, rfl⟩ := r
      cases r'
      have fr : ∀ c, c ∈ [s1.heap.objs.size + 4, s1.heap.objs.size + 2, s1.heap.objs.size + 3, s1.heap.objs.size, s1.heap.objs.size + 1] → FpOk X pins H1 c := fun c hcm => by
        have hle : s1.heap.objs.size ≤ c := by
          simp only [List.mem_cons, List.not_mem_nil, or_false] at hcm
          rcases hcm with rfl | rfl | rfl | rfl | rfl
          · exact Nat.le_add_right _ _
          · exact Nat.le_add_right _ _
          · exact Nat.le_add_right _ _
          · exact Nat.le_refl _
          · exact Nat.le_add_right _ _
        exact I1.fpOk hle (I1.hok.fresh hle)
      obtain ⟨its2, rv2, p2, _⟩ := I1.tuple hqy
      obtain ⟨o2, ho2, _⟩ := id p2
      refine zs_call hx (show s1.heap.IsTuple b its2.toArray from p2) fun g hz hTI hTO h1 h2 hk => wpAny_pyIter_zip hz ?_
      have I2 : Inv X pins σ H1 { s1 with heap := g } := I1.kept (t' := s1.toks) hk
      exact ⟨s1.heap.objs.size + 4, [s1.heap.objs.size + 4, s1.heap.objs.size + 2, s1.heap.objs.size + 3, s1.heap.objs.size, s1.heap.objs.size + 1], _, _, H1, rfl, I2, turn_zs (PySem.W.ktu_apart s1.heap.objs.size b b (Heap.lt_size ho2) (Heap.lt_size ho2)), ⟨hz, hTI, ⟨_, _, hTO⟩, h1, h2⟩, fr, q⟩
def pairsS (l : List Nat) (ys : List D) : List D := pairsD (chars l) ys
theorem itzS_ok {K : PySem.W.Frag} {ha : HA} {G : Hp} {l : List Nat} {b : Addr} {ws : List V} {ys : List D} (h2 : SqT K G b ws) (r2 : Rps K ha G ys ws) : ItOk K ha G (ItzS K ⟨l.toArray⟩ b) (pairsS l ys) := by
  have hc : ∀ i, i < (chars l).length → ∃ c, l[i]? = some c ∧ (chars l)[i]? = some (.str [c]) := fun i hi => by
    have : i < l.length := by simpa [chars] using hi
    exact ⟨l[i], List.getElem?_eq_getElem this, by simp [chars, List.getElem?_eq_getElem this]⟩
  refine pairs_ok (fun i H' G' l1 l2 hx hy => ?_) (fun i H' G' v H'' l1 l2 hx hy y => ?_) (fun i H' G' l1 l2 hi => ?_)
  · obtain ⟨c, c1, c2⟩ := hc i hx
    have e2 : i < ws.length := by rw [← r2.length]; exact hy
    exact ⟨ws, c, ws[i], (l1.trans l2).t h2, by simpa using c1, List.getElem?_eq_getElem e2⟩
  · obtain ⟨T, c, y, rfl, hT, rfl, f1, f2⟩ := y
    obtain ⟨c', c1, c2⟩ := hc i hx
    have ec : c = c' := by
      have : l[i]? = some c := by simpa using f1
      rw [this] at c1
      exact Option.some.inj c1
    subst ec
    obtain ⟨dy, y3, y4⟩ := r2.getV (f2 ws ((l1.trans l2).t h2))
    exact ⟨T, _, y, _, dy, rfl, hT, rfl, c2, y3, .str [c], y4.le l1⟩
  · refine ⟨ws, (l1.trans l2).t h2, ?_⟩
    rw [← r2.length]
    simpa [chars] using hi
def zipS : List D → Option (List D)
  | [.str l, .tup ys] => if l.all (· < 128) = true then some (pairsS l ys) else none
  | ds => zipI ds
theorem Pst.bindEq {K : PySem.W.Frag} {mg : Str → Option Value} {W : WXd} {α β γ δ : Type} {rel : HA → Hp → Hp → Hp → α → β → Prop} {rel' : HA → Hp → Hp → Hp → γ → δ → Prop} {f : EM α} {g : α → EM γ} {c : C} {ρ : En} {h : Hand} {σ : L2.St} {H G : Hp} {Q : δ → Hp → Prop} {Q1 : β → Hp → Prop}
    (q : Pst K mg W rel' c ρ σ H G Q (bindM f g ρ h))
    (hb : ∀ ha Hs G0 H1 G1 H' G' d v, Ext ha Hs G0 H1 G1 → rel' ha H1 H' G' d v → rel' ha Hs H' G' d v)
    (k : ∀ h1 d v H1 G1, f ρ h = .ok d h1 → SI K c ρ h1 σ H1 G1 → Ext c.ha H G H1 G1 → rel c.ha H H1 G1 d v → Pst K mg W rel' c ρ σ H1 G1 Q (g d ρ h1) → Q1 v H1) :
    Pst K mg W rel c ρ σ H G Q1 (f ρ h) := by
  unfold Pst bindM at q
  unfold Pst
  cases e : f ρ h with
  | stuck => rw [e] at q; exact q
  | err x h' => rw [e] at q; exact q
  | ok d h1 =>
    rw [e] at q
    refine fun v H1 G1 I1 E1 r1 => k h1 d v H1 G1 e I1 E1 r1 ?_
    have q' : RunE (g d ρ h1) _ _ := q
    exact q'.mono (fun e h2 q2 w H2 G2 I2 E2 r2 => q2 w H2 G2 I2 (E1.trans E2) (hb _ _ _ _ _ _ _ _ _ E1 r2)) fun _ _ z H2 G2 Cx I2 E2 hm => z H2 G2 Cx I2 (E1.trans E2) hm
section
variable {X : Cx} {W : WXd}
theorem i_zipS {a b : Expr} {g : EM (List D)} {p pos tpos : Pos} {elts : List Expr} {kk : Nat} (hg : Gl X "zip") (hm : X.mg "zip" = none) (ha : DA X W [a, b] g) (hs : starEach [a, b] X.env = (false, eval a X.env) :: starEach [b] X.env := by rfl)
    (hs2 : (backTo pos (starEach [b] X.env)).any (·.1) = false := by rfl) : DI X W (.Tuple elts kk tpos) (.Call (.Name "zip" p) [a, b] [] pos) (mapM1 g zipS) := by
  refine ⟨fun pins s σ H R J ⟨c, ρ, h, G, I, q⟩ => ?_⟩
  have other : (∀ ds h1, g ρ h = .ok ds h1 → zipS ds = zipI ds) → tI X.K X.mg W (mapM1 g zipI) σ H R := fun hz => by
    refine ⟨c, ρ, h, G, I, ?_⟩
    have e : mapM1 g zipI ρ h = mapM1 g zipS ρ h := by
      unfold mapM1 bindM
      cases e : g ρ h with
      | stuck => rfl
      | err x h' => rfl
      | ok ds h1 =>
        show lift (zipI ds) ρ h1 = lift (zipS ds) ρ h1
        rw [hz ds h1 e]
    rw [e]
    exact q
  by_cases hz : ∀ ds h1, g ρ h = .ok ds h1 → zipS ds = zipI ds
  · exact (i_zip hg hm ha hs hs2).run pins s σ H R J (other hz)
  · refine (pi_zipS hg hm ha hs hs2).run pins s σ H R J ⟨c, ρ, h, G, I, Pst.bindEq q bI fun h1 ds vs H1 G1 e I1 E1 r1 q1 => ?_⟩
    have hz' : zipS ds ≠ zipI ds := fun z => hz fun ds' h1' e' => by
      rw [e] at e'
      cases e'
      exact z
    obtain ⟨z, e2, q2⟩ := Pst.lift q1
    unfold zipS at e2 hz'
    split at e2
    · obtain ⟨hl, rfl⟩ := if_some e2
      cases r1 with
      | cons r1 rr =>
        cases rr with
        | cons r2 rr =>
          cases rr
          cases r1
          cases r2 with
          | tup h2 r2 => exact ⟨_, _, _, rfl, by simpa using hl, Le.t I1.sub h2, q2 _ H1 G1 I1 (Ext.refl _ _ _) (itzS_ok h2 r2)⟩
    · rename_i hne
      exact absurd (by split <;> first | rfl | exact absurd rfl (hne _ _)) hz'

/-! ### 'ab'[::-1] -/
def revM (f : EM D) : EM D := bindM f fun d => lift (match d with | .str [97, 98] => some (.str [98, 97]) | _ => none)
theorem pe_revS {e : Expr} {te : TE} {k : Nat} {p1 p2 p3 pos : Pos} (he : PE X e te) :
    PE X (.Subscript e (.Slice none none (some (.UnaryOp .USub (.Constant (.int 1) k p1) p2)) p3) pos) (fun σ H Q => te σ H fun x H1 => x = .str ⟨#[97, 98]⟩ ∧ Q (.str ⟨#[98, 97]⟩) H1) := by
  refine ⟨fun pins s σ H Q I h => Subscript_ (thn (he.run pins s σ H _ I h) fun v s1 ⟨x, H1, I1, r1, ex, q⟩ => ?_)⟩
  subst ex
  obtain ⟨t, rfl⟩ := r1
  have hst : PO X (some (.UnaryOp .USub (.Constant (.int 1) k p1) p2)) (tPart (tUn (rU fun i => .int (-i)) (tC (.int 1)))) := po_some (pe_un un_neg pe_int)
  refine wpAny_Slice (thn (po_none.run pins s1 σ H1 (fun o H2 => o = none ∧ H2 = H1) I1 ⟨rfl, rfl⟩) fun vl s2 ⟨l, H2, I2, pl, el, e2⟩ => ?_)
  subst el e2
  refine thn (po_none.run pins s2 σ H2 (fun o H3 => o = none ∧ H3 = H2) I2 ⟨rfl, rfl⟩) fun vu s3 ⟨u, H3, I3, pu, eu, e3⟩ => ?_
  subst eu e3
  refine thn (hst.run pins s3 σ H3 (fun o H4 => o = some (-1) ∧ H4 = H3) I3 ⟨1, rfl, -1, rfl, rfl, rfl⟩) fun vs s4 ⟨o, H4, I4, ps, eo, e4⟩ => ?_
  subst eo e4
  have I5 : Inv X pins σ H4 { s4 with heap := s4.heap.push { cls := .type "slice", data := .fields #[vl, vu, vs] } } := I4.kept (t' := s4.toks) fun b ob q => Heap.get?_push_of_some _ q
  obtain ⟨l, rfl, el⟩ := IsPart.raw pl
  obtain ⟨u, rfl, eu⟩ := IsPart.raw pu
  obtain ⟨st, rfl, es⟩ := IsPart.raw ps
  have el' : l = none := by cases l with | none => rfl | some x => cases el
  have eu' : u = none := by cases u with | none => rfl | some x => cases eu
  subst el' eu'
  cases st with
  | none => cases es
  | some st =>
    obtain ⟨si, stk⟩ := st
    cases es
    refine tail_any (ops := [.str ⟨#[97, 98]⟩ t, .ref s4.heap.objs.size]) (typeIs_str _ _ _) (F.slot_str_getitem.lookup) ?_ (by with_unfolding_all rfl)
    refine wpAny_getItem_str_slice (l := none) (u := none) (st := some (-1, stk)) ⟨_, Heap.get?_push_size _ rfl, rfl, rfl⟩ rfl ?_
    have pk : (List.filterMap (fun (i : Nat) => (#[97, 98] : Array Nat)[i]?) (slicePicked ⟨#[97, 98]⟩ none none (some (-1, stk)))).toArray = #[98, 97] := by rfl
    refine ⟨?_, ?_⟩
    · show (List.filterMap (fun (i : Nat) => (#[97, 98] : Array Nat)[i]?) (slicePicked ⟨#[97, 98]⟩ none none (some (-1, stk)))).toArray.size ≤ sizeLine
      rw [pk]
      decide
    · refine ⟨.str ⟨#[98, 97]⟩, H4, I5.tok _, ?_, q⟩
      exact ⟨_, congrArg (fun z => Value.str ⟨z⟩ _) pk⟩
theorem e_rev {e : Expr} {f : EM D} {k : Nat} {p1 p2 p3 pos : Pos} (he : DE X W .E e f) : DE X W .E (.Subscript e (.Slice none none (some (.UnaryOp .USub (.Constant (.int 1) k p1) p2)) p3) pos) (revM f) :=
  PE.imp (pe_revS he) fun σ H Q ⟨c, ρ, h, G, I, q⟩ => ⟨c, ρ, h, G, I, Pst.bind q bE fun h1 d v H1 G1 I1 E1 r1 q1 => by
    obtain ⟨z, e, q2⟩ := Pst.lift q1
    split at e
    · cases e
      cases (show Rp X.K c.ha G1 (.str [97, 98]) v from r1)
      exact ⟨rfl, q2 _ H1 G1 I1 (Ext.refl _ _ _) (.str [98, 97])⟩
    · cases e⟩
end

theorem ss_stuck {X : Cx} {W : WXd} {st : List Stmt} : DSs X W st stuckS := PSs.imp pss_never fun D σ H ⟨c, ρ, h, G, I, q⟩ => q
end DL

set_option Elab.async false
set_option linter.all false
set_option maxRecDepth 100000
set_option maxHeartbeats 4000000
/-! a lambda without parameters, or with one that has an int for default, handed to a def and called there -/
namespace DL
open PySem PySem.Spec PyProof.Rows L2 LamX
def ExtD (H H' : Hp) : Prop := (∀ b o, H b = some o → nt o → H' b = some o) ∧ ∀ b, H b ≠ none → H' b ≠ none
/-- what stands for the defaults -/
def DfV (dv : Option Int) (H : Hp) (dV : Value) : Prop := match dv with
  | none => dV = .none
  | some i => ∃ T, dV = .ref T ∧ H T = some (.tup [.int i])
def DfE (dv : Option Int) (params : Arguments) (env : Env) : Prop := match dv with
  | none => defaultsOf params env = ([], [])
  | some i => ∃ j p, defaultsOf params env = ([eval (.Constant (.int i) j p) env], [])
/-- how the parameters are bound -/
def DfB (dv : Option Int) (x : Str) (params : Arguments) (body : Expr) (scope : Scope) : Prop := match dv with
  | none => ∀ (q : Str) (cl : List (Str × Addr)) (doc pm cv ct : Value), bindArgs (PySem.W.kdv_fn "<lambda>" q params (.expr body) scope cl .none doc pm cv ct) ⟨[], []⟩ = pure []
  | some _ => ∀ (q : Str) (cl : List (Str × Addr)) (T : Addr) (doc pm cv ct v : Value), ∃ k, bindArgs (PySem.W.kdv_fn "<lambda>" q params (.expr body) scope cl (.ref T) doc pm cv ct) ⟨[], []⟩ = seqItems? (.ref T) >>= k ∧ k (some #[v]) = pure [(x, v)]
structure LamD (N : List Str) (sc scope : Scope) (dv : Option Int) (x : Str) : Prop where
  kind : scope.kind = .function
  co : scope.isCoroutine = false
  gen : scope.isGenerator = false
  nocell : ∀ y ∈ scope.names, y.2 ≠ .cell
  own : ∀ y ∈ scope.names, y.2 = .local → y.1 ∉ N
  free : ∀ y ∈ scope.names, y.2 = .free → sc.names.lookup y.1 = some .cell ∨ sc.names.lookup y.1 = some .free
  par : dv ≠ none → scope.names.lookup x = some .local
def lamDB (N : List Str) (sc scope : Scope) (dv : Option Int) (x : Str) : Bool :=
  decide (scope.kind = .function) && !scope.isCoroutine && !scope.isGenerator && scope.names.all (fun y => !decide (y.2 = .cell) && (!decide (y.2 = .local) || !decide (y.1 ∈ N)) && (!decide (y.2 = .free) || decide (sc.names.lookup y.1 = some .cell) || decide (sc.names.lookup y.1 = some .free))) && (decide (dv = none) || decide (scope.names.lookup x = some .local))
theorem lamD_by {N : List Str} {sc scope : Scope} {dv : Option Int} {x : Str} (h : lamDB N sc scope dv x = true) : LamD N sc scope dv x := by
  unfold lamDB at h
  simp only [Bool.and_eq_true, Bool.or_eq_true, Bool.not_eq_true', decide_eq_true_eq, decide_eq_false_iff_not, List.all_eq_true] at h
  obtain ⟨⟨⟨⟨h1, h2⟩, h3⟩, h4⟩, h5⟩ := h
  refine ⟨h1, h2, h3, fun y hy => (h4 y hy).1.1, fun y hy e => ?_, fun y hy e => ?_, fun e => h5.resolve_left e⟩
  · exact (h4 y hy).1.2.resolve_left fun z => z e
  · rcases (h4 y hy).2 with (z | z) | z
    · exact absurd e z
    · exact .inl z
    · exact .inr z
section
variable {X : Cx} {pins : List (Addr × Obj)} {σ : L2.St} {H HZ : Hp} {s s1 : Shared} {dv : Option Int} {px : Str}
theorem LamD.has {scope : Scope} (L : LamD X.N X.env.scope scope dv px) (ok : X.Ok) : ∀ y ∈ scope.names, y.2 = .free → ∃ c, X.env.cells.lookup y.1 = some c := fun y hy e => by
  rcases L.free y hy e with k | k
  · exact ok.has _ (.inl k)
  · exact ok.has _ (.inr k)
abbrev lamFn (X : Cx) (params : Arguments) (body : Expr) (scope : Scope) (dV doc pm : Value) (c' : Addr) (ctv : Value) : Obj :=
  { cls := .type "function", data := .func (PySem.W.kdv_fn "<lambda>" (X.env.qual ++ "<lambda>") params (.expr body) scope (cloFrom X.env.cells scope.names []) dV doc pm (.ref c') ctv) }
/-- behind the defaults -/
theorem lam_tail {T : List (Addr × Str)} {c P : Addr} {params : Arguments} {body : Expr} {scope : Scope} {dV : Value} {pos : Pos} {E : Value → Shared → Prop} {Q : Value → Shared → Prop} (I : Inv X pins σ H s) (TB : TabB X.base X.mg c P) (hcode : X.env.code = .ref c)
    (hm : (P, X.env.qual ++ "<lambda>") ∈ T) (hu : ∀ p ∈ T, p.1 = P → p.2 = X.env.qual ++ "<lambda>") (hT : Tabs T H) (hfree : ∀ y ∈ scope.names, y.2 = .free → ∃ c, X.env.cells.lookup y.1 = some c)
    (h : ∀ (f c' : Addr) (pm ctv doc : Value) (H1 : Hp) (s' : Shared), Inv X pins σ H1 s' → ExtD H H1 → Tabs T H1 → s'.heap.get? f = some (lamFn X params body scope dV doc pm c' ctv) → H1 f = none → f ∉ frs X.stack → H1 c' = some (CodeO c' (X.env.qual ++ "<lambda>")) → Q (.ref f) s') :
    wpAny (model X.prog X.w) X.A (makeTail "<lambda>" (X.env.qual ++ "<lambda>") params (.expr body) scope X.env dV .none none pos pos.line) Q E s := by
  obtain ⟨ps, hP, ht, ha⟩ := hT _ hm
  have bP : s.heap.BuiltinsAt X.mg P := TB.bm.keeps I.bk
  have gP : s.heap.get? P = some { cls := .none, data := .fields ps } := I.hok P _ hP
  have nofr : ∀ f, s.heap.objs.size ≤ f → f ∉ frs X.stack := fun f hf z => by
    rcases List.mem_cons.mp (I.stkSub _ z) with e | e
    · exact Nat.lt_irrefl _ (Nat.lt_of_lt_of_le (e ▸ I.lt) hf)
    · exact I.nofs hf e
  cases hc : codeAmong pos ps.toList with
  | none =>
    refine PySem.W.kdv_makeTail (mg := X.mg) (c := c) (P := P) (ps := ps) (closure_ok hfree) I.ok.glob (I.mod.glob.keeps I.bk) hcode (TB.code.keeps I.bk) gP ht hc TB.gP bP fun c' ctv doc h' tk hx hge hlt hrec htb => ?_
    obtain ⟨c2, oc, vs, t, e2, hoc, hd, hv⟩ := hrec
    cases e2
    have hsz : s.heap.objs.size ≤ h'.objs.size := Nat.le_trans hge (Nat.le_of_lt hlt)
    have nC : H c' = none := I.hok.fresh hge
    have J := inv_table (t' := tk) (more := #[rawInt pos.line, rawInt pos.col, .ref c']) (h' := h'.push (lamFn X params body scope dV doc ((X.mg "__name__").getD .none) c' ctv)) I hP (fun b o hb e => Heap.get?_push_of_some _ (hx b o hb e)) (Heap.get?_push_of_some _ htb) hge ⟨oc, vs, t, Heap.get?_push_of_some _ hoc, hd, hv⟩
    have hE : ExtD H (upd (upd H P (.tbl (ps ++ #[rawInt pos.line, rawInt pos.col, .ref c']))) c' (CodeO c' (X.env.qual ++ "<lambda>"))) := by
      refine ⟨fun b o e n => ?_, fun b e => ?_⟩
      · rw [upd_ne (ne_of_none e nC), upd_ne (fun z => n ps (Option.some.inj (e.symm.trans (by rw [z]; exact hP))))]
        exact e
      · by_cases z1 : b = c'
        · rw [z1, upd_same]; simp
        · rw [upd_ne z1]
          by_cases z2 : b = P
          · rw [z2, upd_same]; simp
          · rw [upd_ne z2]; exact e
    have eL : (ps ++ #[rawInt pos.line, rawInt pos.col, .ref c']).toList = ps.toList ++ [rawInt pos.line, rawInt pos.col, .ref c'] := by simp
    refine h h'.objs.size c' ((X.mg "__name__").getD .none) ctv doc _ _ J hE (fun p hp => ?_) (Heap.get?_push_size _ rfl) ?_ (nofr _ hsz) upd_same
    · by_cases hb : p.1 = P
      · rw [hu p hp hb, hb]
        refine ⟨_, by rw [upd_ne (ne_of_none hP nC), upd_same], by rw [eL]; exact PySem.TriplesOk_snoc _ _ _ _ ht, fun p' cv hcv => ?_⟩
        rw [eL] at hcv
        rcases among_app _ ht hcv with z | z
        · obtain ⟨c0, e1, e2⟩ := ha p' cv z
          exact ⟨c0, e1, hE.1 _ _ e2 codeO_ne⟩
        · exact ⟨c', z, upd_same⟩
      · obtain ⟨ps', a1, a2, a3⟩ := hT p hp
        refine ⟨ps', by rw [upd_ne (ne_of_none a1 nC), upd_ne hb]; exact a1, a2, fun p' cv hcv => ?_⟩
        obtain ⟨c0, e1, e2⟩ := a3 p' cv hcv
        exact ⟨c0, e1, hE.1 _ _ e2 codeO_ne⟩
    · rw [upd_ne (Nat.ne_of_gt hlt), upd_ne (Nat.ne_of_gt (Nat.lt_of_lt_of_le (Heap.lt_size gP) hsz))]
      exact I.hok.fresh hsz
  | some cv =>
    obtain ⟨c', e, hco⟩ := ha pos cv hc
    subst e
    refine PySem.W.kdv_makeTailHit (mg := X.mg) (c := c) (P := P) (ps := ps) (closure_ok hfree) I.ok.glob (I.mod.glob.keeps I.bk) hcode (TB.code.keeps I.bk) gP ht hc bP fun ctv doc h' tk hx hsz => ?_
    have J : Inv X pins σ H { s with heap := h'.push (lamFn X params body scope dV doc ((X.mg "__name__").getD .none) c' ctv), toks := tk } := I.kept fun b o e => Heap.get?_push_of_some _ (hx b o e)
    exact h h'.objs.size c' ((X.mg "__name__").getD .none) ctv doc H _ J ⟨fun b o e _ => e, fun b e => e⟩ hT (Heap.get?_push_size _ rfl) (I.hok.fresh hsz) (nofr _ hsz) hco
theorem lamD_make {T : List (Addr × Str)} {c P : Addr} {params : Arguments} {body : Expr} {scope : Scope} {pos : Pos} {E : Value → Shared → Prop} {Q : Value → Shared → Prop} (I : Inv X pins σ H s) (TB : TabB X.base X.mg c P) (hcode : X.env.code = .ref c)
    (hm : (P, X.env.qual ++ "<lambda>") ∈ T) (hu : ∀ p ∈ T, p.1 = P → p.2 = X.env.qual ++ "<lambda>") (hT : Tabs T H) (hdef : DfE dv params X.env) (hkw : params.kwonlyargs = []) (hfree : ∀ y ∈ scope.names, y.2 = .free → ∃ c, X.env.cells.lookup y.1 = some c)
    (h : ∀ (f c' : Addr) (dV pm ctv doc : Value) (H1 : Hp) (s' : Shared), Inv X pins σ H1 s' → ExtD H H1 → Tabs T H1 → DfV dv H1 dV → s'.heap.get? f = some (lamFn X params body scope dV doc pm c' ctv) → H1 f = none → f ∉ frs X.stack → H1 c' = some (CodeO c' (X.env.qual ++ "<lambda>")) → Q (.ref f) s') :
    wpAny (model X.prog X.w) X.A (eval (.Lambda params body scope pos) X.env) Q E s := by
  rw [arm_eval_Lambda]
  cases dv with
  | none =>
    rw [show defaultsOf params X.env = ([], []) from hdef]
    show wpAny _ _ (do let dv ← evalAll []; let kdv ← holding dv (evalAllOpt []); makeFunction "<lambda>" (X.env.qual ++ "<lambda>") params (.expr body) scope X.env dv kdv [] pos pos.line) Q E s
    refine wpAny_bind (wpAny_pure (wpAny_bind (wpAny_holding (wpAny_pure ?_))))
    rw [makeFunction_eq]
    simp only [List.zip_nil_right, List.filterMap_nil, List.isEmpty_nil, if_true, pure_bind]
    exact lam_tail I TB hcode hm hu hT hfree fun f c' pm ctv doc H1 s' J e T1 g n fr hc => h f c' .none pm ctv doc H1 s' J e T1 rfl g n fr hc
  | some i =>
    obtain ⟨j, p, hdef⟩ := hdef
    rw [hdef]
    show wpAny _ _ (do let dv ← evalAll [eval (.Constant (.int i) j p) X.env]; let kdv ← holding dv (evalAllOpt []); makeFunction "<lambda>" (X.env.qual ++ "<lambda>") params (.expr body) scope X.env dv kdv [] pos pos.line) Q E s
    refine wpAny_bind (wpAny_bind (wpAny_Constant_int (wpAny_bind (wpAny_holding (wpAny_pure (wpAny_pure ?_))))))
    refine wpAny_bind (wpAny_holding (wpAny_pure ?_))
    rw [makeFunction_eq, hkw]
    simp only [List.zip_nil_left, List.zip_nil_right, List.filterMap_nil, List.isEmpty_nil, List.isEmpty_cons, if_true, pure_bind]
    refine wpAny_bind (wpAny_newTextTuple ?_)
    have I1 : Inv X pins σ H { s with toks := s.toks + 1 } := I.tok _
    have hp := I1.hok.fresh (Nat.le_refl s.heap.objs.size)
    have I2 : Inv X pins σ (upd H s.heap.objs.size (.tup [.int i])) { s with heap := s.heap.push { cls := .type "tuple", data := .seq [Value.int i s.toks].toArray }, toks := s.toks + 1 } :=
      I1.laid (t' := s.toks + 1) (fun b u e => Heap.get?_push_of_some _ e) (Nat.le_refl _) ⟨by show 1 ≤ sizeLine; decide, [Value.int i s.toks], .cons ⟨_, rfl⟩ .nil, _, Heap.get?_push_size _ rfl, rfl, _, rfl⟩
    have le : ∀ b o, H b = some o → upd H s.heap.objs.size (.tup [.int i]) b = some o := fun b o e => by rw [upd_ne (ne_of_none e hp)]; exact e
    refine lam_tail I2 TB hcode hm hu (hT.ext le) hfree fun f c' pm ctv doc H1 s' J e T1 g n fr hc => h f c' _ pm ctv doc H1 s' J ⟨fun b o q n => e.1 b o (le b o q) n, fun b q => e.2 b ?_⟩ T1 ⟨_, rfl, e.1 _ _ upd_same (fun ps z => by cases z)⟩ g n fr hc
    cases q2 : H b with
    | none => exact absurd q2 q
    | some o => rw [le b o q2]; simp
end
end DL

set_option Elab.async false
set_option linter.all false
set_option maxRecDepth 100000
set_option maxHeartbeats 4000000
namespace DL
open PySem PySem.Spec PyProof.Rows L2 LamX
section
variable {X : Cx} {pins : List (Addr × Obj)} {σ : L2.St} {H HZ : Hp} {s s1 : Shared} {dv : Option Int} {px : Str}
theorem lam_start {A : Around} {outer : List Env} {E : XK} {scope : Scope} {f c' : Addr} {h₁ : Heap} {tk : Nat} {binds : List (Str × Value)} (I : Inv X pins σ H s) (L : LamD X.N X.env.scope scope dv px) (e0 : Env0 X.prog X.w X.K X.mg X.base A outer s1 HZ) (hd : A.handled = none)
    (un : Un (frs X.stack) [] H HZ s.heap s1.heap) (hns : h₁.Ns s1.heap.objs.size fun y => binds.reverse.lookup y) (kp : ∀ b o, s1.heap.get? b = some o → h₁.get? b = some o) :
    Inv (lamCx X A outer s1 HZ E scope f c') [] σ HZ { s1 with heap := h₁, toks := tk } := by
  have hfree := L.has I.ok
  have cm : ∀ {y c}, (cloFrom X.env.cells scope.names []).lookup y = some c → X.env.cells.lookup y = some c := fun {y c} e => by
    rcases cloFrom_mem (PySem.mem_of_lookup e) with hm | ⟨h1, h2⟩
    · cases hm
    · obtain ⟨c1, hc⟩ := hfree _ h1 rfl
      have hc : X.env.cells.lookup y = some c1 := hc
      have e2 : c = c1 := by rw [h2, hc] <;> rfl
      rw [e2]
      exact hc
  have look : ∀ {y}, scope.names.lookup y = some .free → ∃ c, (cloFrom X.env.cells scope.names []).lookup y = some c := fun {y} hl => mem_lookup (cloFrom_has (cells := X.env.cells) (acc := []) (show (y, NameKind.free) ∈ scope.names from PySem.mem_of_lookup hl))
  have cellK : ∀ {c : Addr} {v : Option Value}, H c = none → s.heap.IsCell c v → h₁.IsCell c v := fun {c v} n ⟨o, ho, hd⟩ => by
    obtain ⟨sl, q⟩ := un.any ho n (by simp)
    exact ⟨_, kp _ _ q, hd⟩
  have noA : ∀ b : Addr, b ∉ (lamCx X A outer s1 HZ E scope f c').ex := fun b z => absurd (show b ∈ ([] : List Addr) from z) (by simp)
  refine ⟨⟨e0.mod, L.kind, rfl, rfl, Nat.le_refl _, fun y z c e1 e2 => I.ok.inj y z c (cm e1) (cm e2), fun y hy => ?_, fun y c z _ => (by cases (show false = true from z)), fun _ => hd, Around.frames_deeper e0.frames, .inr ⟨rfl, rfl⟩, fun b z => absurd z (noA b), e0.bs, e0.bsz, fun b _ _ => noA b,
      fun b z => absurd z (noA b), e0.funs, e0.frf⟩, rfl, e0.bare, Un.kept kp, ⟨_, hns, fun i y v e1 e2 e3 => ?_⟩, fun y c e => ?_, e0.hok.fresh (Nat.le_refl _), fun y c e => ?_, fun q hq => absurd (show q ∈ ([] : List (Addr × Obj)) ++ [] from hq) (by simp), e0.hok.kept kp, I.len⟩
  · rcases (show scope.names.lookup y = some .cell ∨ scope.names.lookup y = some .free from hy) with hy | hy
    · exact absurd rfl (L.nocell _ (PySem.mem_of_lookup hy))
    · exact look hy
  · rcases (show Vis scope y from e3) with k | k | k
    · exact absurd (List.mem_of_getElem? e1) (L.own _ (PySem.mem_of_lookup k) rfl)
    · exact absurd rfl (L.nocell _ (PySem.mem_of_lookup k))
    · obtain ⟨m, hn, hl⟩ := I.loc
      have hvis : Vis X.env.scope y := (L.free _ (PySem.mem_of_lookup k) rfl).elim (fun k => .inr (.inl k)) (fun k => .inr (.inr k))
      obtain ⟨w', r, q⟩ := hl i y v e1 e2 hvis
      obtain ⟨c2, h2⟩ := look k
      refine ⟨w', r, .inr ⟨.inr k, c2, h2, ?_⟩⟩
      have c1 := cm h2
      rcases q with ⟨k', _⟩ | ⟨_, c3, e', z⟩
      · have k' : X.env.scope.names.lookup y = some .local := k'
        rcases L.free _ (PySem.mem_of_lookup k) rfl with k2 | k2 <;> rw [show X.env.scope.names.lookup y = _ from k2] at k' <;> cases k'
      · rw [c1] at e'
        cases e'
        exact cellK (I.freeC y _ c1) z
  · obtain ⟨w', z⟩ := I.cell y c (cm e)
    exact ⟨w', cellK (I.freeC y c (cm e)) z⟩
  · obtain ⟨v, o, ho, hd⟩ := I.cell y c (cm e)
    exact un.free c o ho (I.freeC y c (cm e)) (by simp)
/-- x(), in the def that got the lambda -/
theorem pe_actD {CXg : CXT} {Eg : XK} {Ng : List Str} {qg : Str} {sg : Scope} {g f c' : Addr} {cdg pm ctv dV doc : Value} {params : Arguments} {body : Expr} {scope : Scope} {k i : Nat} {a : Str} {pn : List (Addr × Obj)} {xe : Value → Shared → Prop} {W : WX} {E : XK} {tb : TE} {p1 p2 : Pos}
    (I : Inv X pins σ H s) (L : LamD X.N X.env.scope scope dv px) (hf : s.heap.get? f = some (lamFn X params body scope dV doc pm c' ctv)) (hfn : H f = none) (hfr : f ∉ frs X.stack) (hbind : DfB dv px params body scope)
    (tk : Takes ((cxOf CXg X.prog X.w X.K X.mg X.base Ng qg sg g cdg X.A X.stack s H Eg).tr pn xe) W) (hW : ∀ cls d σ' H', E cls d H' → W cls d σ' H') (hr : Room (k + 1) (X.A.deeper (envOfC qg sg s.heap.objs.size g cdg)))
    (hbody : ∀ (A : Around) (outer : List Env) (s : Shared) (H : Hp), Room k (A.deeper (lamEnv X scope s.heap.objs.size f c')) → PE (lamCx X A outer s H E scope f c') body tb)
    (hN : Ng[i]? = some a) (hv : Vis sg a) (hd : (a == ("__debug__" : Str)) = false := by decide) (hcd : (a == ("__classdict__" : Str)) = false := by decide) :
    PE ((cxOf CXg X.prog X.w X.K X.mg X.base Ng qg sg g cdg X.A X.stack s H Eg).tr pn xe) (.Call (.Name a p1) [] [] p2)
      (fun σZ HZ Q => σZ[i]? = some (some (.ref f)) ∧ (HZ c' = some (CodeO c' (X.env.qual ++ "<lambda>")) ∧ DfV dv HZ dV) ∧ tb σ HZ Q) := by
  refine ⟨fun pinsZ sZ σZ HZ Q IZ ⟨hs, ⟨hc, hdf⟩, ht⟩ => ?_⟩
  refine wpAny_Call_Name_kw (thn ((pe_var (pos := p1) (i := i) hN hv hd hcd).run pinsZ sZ σZ HZ (fun v H1 => v = .ref f ∧ H1 = HZ) IZ ⟨.ref f, hs, rfl, rfl⟩) fun u s1 ⟨v, H1, I1, r1, ev, eH⟩ => ?_)
  subst ev
  rw [eH] at I1
  obtain rfl : u = Value.ref f := r1
  have of1 : s1.heap.get? f = some (lamFn X params body scope dV doc pm c' ctv) := I1.base.keep f _ hf hfn hfr (fun z => nomatch (show f ∈ ([] : List Addr) from z))
  refine PySem.W.callWith_F0 ⟨_, _, _, _, of1⟩ ?_
  have un : Un (frs X.stack) [] H HZ s.heap s1.heap := I1.base
  obtain ⟨⟨oc, vs, t, hoc, hdc, hvc⟩, _, _⟩ := I1.hok c' _ hc
  have rc : codeAny (model X.prog X.w) (X.A.deeper (envOfC qg sg s.heap.objs.size g cdg)) (.call (.ref f) ⟨[], []⟩) (CR (L2.CX X.prog X.w) (envOfC qg sg s.heap.objs.size g cdg :: X.stack) X.prog X.w HZ s1 Q E) s1 := by
    refine PySem.W.kla_callFunE hr.depth of1 rfl L.co L.gen rfl ⟨c', oc, vs, t, rfl, hoc, hdc, hvc⟩ ?_
    have go : ∀ binds : List (Str × Value), (∀ y ∈ binds, scope.names.lookup y.1 = some .local) → wpAny (model X.prog X.w) (X.A.deeper (envOfC qg sg s.heap.objs.size g cdg)).in1 (newFunctionEnv scope mainGlobals (cloFrom X.env.cells scope.names []) binds ((X.env.qual ++ "<lambda>") ++ ".<locals>.") (some f) (.ref c') none builtinsNs)
        (fun env s₂ => s₂.heap.NoLimit ∧ codeAny (model X.prog X.w) (X.A.deeper (envOfC qg sg s.heap.objs.size g cdg)) (.expr body env) (CR (L2.CX X.prog X.w) (envOfC qg sg s.heap.objs.size g cdg :: X.stack) X.prog X.w HZ s1 Q E) s₂)
        (fun e s' => CR (L2.CX X.prog X.w) (envOfC qg sg s.heap.objs.size g cdg :: X.stack) X.prog X.w HZ s1 Q E (.error e) s') s1 := fun binds hb => by
      refine wpAny_newFunctionEnv (fun y hy => L.nocell y hy) hb (fun h₁ hns hsb => ⟨I1.nolimit.fresh _ hsb, ?_⟩) L.kind
      show codeAny _ _ (.expr body (lamEnv X scope s1.heap.objs.size f c')) _ _
      have kp : ∀ b o, s1.heap.get? b = some o → h₁.get? b = some o := fun b o e => hsb.extBut b o (Nat.ne_of_lt (Heap.lt_size e)) (Heap.get?_push_of_some _ e)
      have J : Inv (lamCx X (X.A.deeper (envOfC qg sg s.heap.objs.size g cdg)) (envOfC qg sg s.heap.objs.size g cdg :: X.stack) s1 HZ E scope f c') [] σ HZ { s1 with heap := h₁, toks := s1.toks + binds.length } := lam_start I L I1.env0 hr.hd un hns kp
      refine PySem.W.kla_codeExpr (wpAny_mono ((hbody _ _ s1 HZ (hr.deeper _)).run [] _ _ HZ Q J ht) (fun v s' ⟨w', H', J', rv, q⟩ => ⟨w', H', J'.os, J'.bare, J'.base, J'.hok, rv, q⟩) fun e s' hq => hq)
    cases dv with
    | none =>
      cases (show dV = .none from hdf)
      rw [hbind]
      exact wpAny_pure (go [] fun y hy => absurd hy (by simp))
    | some i =>
      obtain ⟨T, rfl, hT⟩ := hdf
      obtain ⟨_, its, rv, o, ho, hcl, n, hdt⟩ := I1.hok T _ hT
      obtain ⟨u, rfl, ru⟩ := vals1 rv
      obtain ⟨k, e1, e2⟩ := hbind (X.env.qual ++ "<lambda>") (cloFrom X.env.cells scope.names []) T doc pm (.ref c') ctv u
      rw [e1]
      refine wpAny_bind (wpAny_seqItems ho hdt ?_)
      have e2' : k (some [u].toArray) = pure [(px, u)] := e2
      rw [e2']
      refine wpAny_pure (go [(px, u)] fun y hy => ?_)
      rw [List.mem_singleton.mp hy]
      exact L.par (by simp)
  have hx : Passes (L2.CX X.prog X.w) ((cxOf CXg X.prog X.w X.K X.mg X.base Ng qg sg g cdg X.A X.stack s H Eg).tr pn xe) E := passes_call tk hW
  refine wpAny_call (codeAny_mono rc fun r s' hq => ?_)
  cases r with
  | error e => exact hx pinsZ σZ HZ s1 e s' I1 hq
  | ok fl =>
    cases fl with
    | ret u => exact I1.after hq
    | next => exact False.elim hq
    | brk => exact False.elim hq
    | cont => exact False.elim hq
end
/-- the def that calls what it got -/
def GivesD (X : Cx) (Ng : List Str) (x : Str) (sg : Scope) (g : Addr) (cdg : Value) (bg : List Stmt) (a : Str) (TT : (XK → Hp → VK → Prop) → Hp → VK → Prop) : Prop :=
  ∀ (f : Addr) (Z : Hp → Prop) (s : Shared) (H : Hp) (Q : VK) (tl : XK → Hp → VK → Prop),
    (∀ (W : WX) (pn : List (Addr × Obj)) (xe : Value → Shared → Prop) (E : XK) (p1 p2 : Pos), Takes ((cxOf C8.CX0 X.prog X.w X.K X.mg X.base Ng x sg g cdg X.A X.stack s H C8.E0).tr pn xe) W → (∀ cls d σ' H', E cls d H' → W cls d σ' H') →
      PE ((cxOf C8.CX0 X.prog X.w X.K X.mg X.base Ng x sg g cdg X.A X.stack s H C8.E0).tr pn xe) (.Call (.Name a p1) [] [] p2) (fun σZ HZ Q => σZ[0]? = some (some (.ref f)) ∧ Z HZ ∧ tl E HZ Q)) →
    Z H → TT tl H Q →
    ∃ t, PSs (cxOf C8.CX0 X.prog X.w X.K X.mg X.base Ng x sg g cdg X.A X.stack s H C8.E0).nox bg t ∧ t { nx := fun _ H' => Q .non H', rt := Q } (L2.start Ng [.ref f]) H
def tLamD (T : List (Addr × Str)) (TT : (XK → Hp → VK → Prop) → Hp → VK → Prop) (t : XK → TE) : TE := fun σ H Q => Tabs T H ∧ ∀ H1, ExtD H H1 → Tabs T H1 → TT (fun E H' Q' => t E σ H' Q') H1 Q
section
variable {X : Cx} {dv : Option Int} {px : Str}
/-- x(lambda: body) -/
theorem pe_lamD {T : List (Addr × Str)} {TT : (XK → Hp → VK → Prop) → Hp → VK → Prop} {x a : Str} {g c P : Addr} {k : Nat} {pg : Arguments} {bg : List Stmt} {sg : Scope} {dV kV doc pm cdv ct oc : Value} {an od : Option Addr} {osl : Array (Option Value)} {Ng : List Str}
    {params : Arguments} {body : Expr} {scope : Scope} {t : XK → TE} {p lpos pos : Pos} (hg : Gl X x) (hm : X.mg x = some (.ref g)) (hk : PySem.W.keepIn X.K (.ref g) = true)
    (lk : X.K.lookup g = some ⟨oc, od, .func (PySem.W.fnOf x x pg bg sg dV kV doc pm an cdv ct), osl⟩) (hcg : PySem.W.codeIn X.K cdv x = true) (hb : L2.Binds X.K (PySem.W.fnOf x x pg bg sg dV kV doc pm an cdv ct) [a] []) (Sg : FnScope Ng [a] sg) (hNg : Ng[0]? = some a) (hva : Vis sg a)
    (hG : GivesD X Ng x sg g cdv bg a TT) (TB : TabB X.base X.mg c P) (hcode : X.env.code = .ref c) (hmT : (P, X.env.qual ++ "<lambda>") ∈ T) (hu : ∀ p ∈ T, p.1 = P → p.2 = X.env.qual ++ "<lambda>") (hr : Room (k + 2) X.A)
    (L : LamD X.N X.env.scope scope dv px) (hdef : DfE dv params X.env) (hkw : params.kwonlyargs = []) (hbind : DfB dv px params body scope)
    (hbody : ∀ (A : Around) (outer : List Env) (s : Shared) (H : Hp) (E : XK) (f c' : Addr), Room k (A.deeper (lamEnv X scope s.heap.objs.size f c')) → PE (lamCx X A outer s H E scope f c') body (t E))
    (hdb : (x == ("__debug__" : Str)) = false := by decide) (hd : (a == ("__debug__" : Str)) = false := by decide) (hcd : (a == ("__classdict__" : Str)) = false := by decide) :
    PE X (.Call (.Name x p) [.Lambda params body scope lpos] [] pos) (tLamD T TT t) := by
  refine ⟨fun pins s σ H Q I ⟨hT, h⟩ => ?_⟩
  refine wpAny_Call_Name_kw (ld_glob I hg hm ?_ hdb)
  refine PySem.W.callWith_K (h₀ := X.base) I.ok.mod.kin hk ?_ (by rfl) (by rfl)
  show wpAny _ _ (spliced ((false, eval (.Lambda params body scope lpos) X.env) :: backTo pos (starEach [] X.env))) _ _ s
  refine Calls.spliced_cons (lamD_make I TB hcode hmT hu hT hdef hkw (L.has I.ok) fun f c' dV' pm' ctv doc' H1 s' I1 eN T1 hdf hf hfn hfr hco => Calls.spliced_nil ⟨I1.kIn, ?_⟩)
  have rc : codeAny (model X.prog X.w) X.A (.call (.ref g) ⟨[.ref f], []⟩) (CR C8.CX0 X.stack X.prog X.w H1 s' Q C8.E0) s' := by
    refine run_ofS (N := Ng) (ps := [a]) (us := [.ref f]) (vs := [.ref f]) lk hcg Sg hr I1.env0 (hb s' [.ref f] I1.kIn rfl) (.cons rfl .nil) rfl fun hr' => ?_
    obtain ⟨t', ht', hq'⟩ := hG f (fun HZ => HZ c' = some (CodeO c' (X.env.qual ++ "<lambda>")) ∧ DfV dv HZ dV') s' H1 Q (fun E H' Q' => t E σ H' Q')
      (fun W pn xe E p1 p2 tk hW => pe_actD (i := 0) I1 L hf hfn hfr hbind tk hW hr' (fun A outer s H hr2 => hbody A outer s H E f c' hr2) hNg hva hd hcd) ⟨hco, hdf⟩ (h H1 eN T1)
    exact ⟨t', ht'.nox, hq'⟩
  refine wpAny_call (codeAny_mono rc fun r s2 hq => ?_)
  cases r with
  | error e => exact (show False from hq).elim
  | ok fl =>
    cases fl with
    | ret u => exact I1.after hq
    | next => exact False.elim hq
    | brk => exact False.elim hq
    | cont => exact False.elim hq
end
end DL

set_option Elab.async false
set_option linter.all false
set_option maxRecDepth 100000
set_option maxHeartbeats 4000000
/-! the hand of a law: [cells, 0, 0, 97 + 13 * len(cells), 0] -/
namespace DL
open PySem PySem.Spec PyProof.Rows L2
def absI (i : Int) : Int := if i < 0 then -i else i
def cellsOf (ns : List Int) : List Int := (cutD ns none (some 63)).map absI
def hand0 (T : List (Addr × Str)) (ns : List Int) : Hand := ⟨cellsOf ns, 0, 0, 97 + 13 * ((cellsOf ns).length : Nat), 0, T⟩
def spHand (K : PySem.W.Frag) : Sp := fun vs H Q _ => ∃ a ns, vs = [V.ref a] ∧ SqL K H a (ns.map V.int) ∧ ns.length ≤ 1000 ∧
  ∀ p ca H', H p = none → H ca = none → p ≠ ca → (∀ b o, H b = some o → H' b = some o) → H' p = some (.lst [.ref ca, .int 0, .int 0, .int (97 + 13 * ((cellsOf ns).length : Nat)), .int 0]) → H' ca = some (.lst ((cellsOf ns).map V.int)) → Q (.ref p) H'
theorem cut_map {α β : Type} (f : α → β) (xs : List α) (lo hi : Option Int) : cutD (xs.map f) lo hi = (cutD xs lo hi).map f := by
  unfold cutD
  rw [List.length_map, List.map_take, List.map_drop]
theorem cut_len {α : Type} (xs : List α) (lo hi : Option Int) : (cutD xs lo hi).length ≤ xs.length := by
  unfold cutD
  rw [List.length_take, List.length_drop]
  omega
/-- the reading of the body; slots: script, cells, cell -/
def tHand (K : PySem.W.Frag) : TS :=
  tSeq (tAsg (tLc (iList K (tSl (rSlL K) (tVar 0) (fun _ H Q => Q none H) (tPart (tC (.int 63))))) (gName 2) (fun _ H Q => Q true H)
    (tCB (fun xs H Q => ∃ i, xs = [.int i] ∧ Q (.int (if i < 0 then -i else i)) H) (tCons (tCB (fun xs H Q => (∃ i, xs = [.int i] ∧ Q (.int i) H) ∨ ∃ k, xs = [.bl k] ∧ Q (.int (if k then 1 else 0)) H) (tCons (tVar 2) tNil)) tNil)) [2]) (gName 1))
  (tRet (tLst (tCons (tVar 1) (tCons (tC (.int 0)) (tCons (tC (.int 0)) (tCons (tOp (rI0 fun i j => .int (i + j)) (tC (.int 97)) (tOp (rI CMul fun i j => .int (i * j)) (tC (.int 13)) (tCB (fun xs H Q => ∃ x n, xs = [x] ∧ LenV K x H n ∧ Q (.int n) H) (tCons (tVar 1) tNil)))) (tCons (tC (.int 0)) tNil)))))))
theorem hand_run {K : PySem.W.Frag} {vs : List V} {H : Hp} {Q : VK} {E : XK} {N : List Str} (hN : N.length = 3) (h : spHand K vs H Q E) : tHand K { nx := fun _ H' => Q .non H', rt := Q } (L2.start N vs) H := by
  obtain ⟨a, ns, rfl, hs, hn, q⟩ := h
  have hz : (1000 : Nat) ≤ sizeLine := by decide
  have es : L2.start N [V.ref a] = [some (.ref a), none, none] := by
    unfold L2.start
    simp [hN]
  rw [es]
  have ec : cutV (ns.map V.int) none (some 63) = (cutD ns none (some 63)).map V.int := by
    rw [← cut_map]
    rfl
  have hl : (cutD ns none (some 63)).length ≤ 1000 := Nat.le_trans (cut_len _ _ _) hn
  refine ⟨_, rfl, 63, rfl, a, _, rfl, hs, fun p hp => ?_⟩
  rw [ec]
  generalize hzs : cutD ns none (some 63) = zs at hl ec
  have hle : ∀ b o, H b = some o → upd H p (.lst (zs.map V.int)) b = some o := fun b o e => by rw [upd_ne (ne_of_none e hp)]; exact e
  refine ⟨p, rfl, ⟨_, .of upd_same⟩, fun ca hca => ?_⟩
  have npc : ca ≠ p := fun z => by rw [z, upd_same] at hca; cases hca
  have hca0 : H ca = none := by rw [upd_ne npc] at hca; exact hca
  refine ⟨fun i m H' => m = zs.length - i ∧ i ≤ zs.length ∧ H' = upd (upd H p (.lst (zs.map V.int))) ca (.lst (((zs.take i).map absI).map V.int)), ⟨zs.length, rfl, Nat.zero_le _, rfl⟩, ?_⟩
  rintro i m H' ⟨rfl, hi, rfl⟩
  have hsq : SqL K (upd (upd H p (.lst (zs.map V.int))) ca (.lst (((zs.take i).map absI).map V.int))) p (zs.map V.int) := .of (by rw [upd_ne (Ne.symm npc), upd_same])
  by_cases hlt : i < zs.length
  · refine .inr ⟨⟨_, .int zs[i], hsq, by rw [List.getElem?_map, List.getElem?_eq_getElem hlt]; rfl⟩, fun H'' => ∃ m', m' < zs.length - i ∧ m' = zs.length - (i + 1) ∧ i + 1 ≤ zs.length ∧ H'' = upd (upd H p (.lst (zs.map V.int))) ca (.lst (((zs.take (i + 1)).map absI).map V.int)), fun _ z => z, fun x H'' y => ?_⟩
    obtain ⟨rfl, hx⟩ := y
    have ex := hx _ hsq
    rw [List.getElem?_map, List.getElem?_eq_getElem hlt] at ex
    have ex' : V.int zs[i] = x := Option.some.inj ex
    subst ex'
    refine ⟨rfl, .int zs[i], rfl, .inl ⟨zs[i], rfl, zs[i], rfl, ((zs.take i).map absI).map V.int, upd_same, by simp; omega, zs.length - (i + 1), by omega, rfl, hlt, ?_⟩⟩
    rw [upd_upd]
    congr 2
    rw [List.take_succ_eq_append_getElem hlt, List.map_append, List.map_append]
    rfl
  · have hi' : i = zs.length := by omega
    subst hi'
    refine .inl ⟨⟨_, hsq, by rw [List.length_map]; exact Nat.le_refl _⟩, ?_⟩
    rw [List.take_length]
    have hcl : cellsOf ns = zs.map absI := by unfold cellsOf; rw [hzs]
    rw [← hcl]
    have hlc : (cellsOf ns).length ≤ 1000 := by rw [hcl, List.length_map]; exact hl
    have hln : (((cellsOf ns).map V.int).length : Nat) = (cellsOf ns).length := List.length_map _
    refine ⟨.ref ca, rfl, .ref ca, rfl, .ref ca, ((cellsOf ns).map V.int).length, rfl, .inl ⟨_, .of upd_same, rfl⟩, 13, _, rfl, rfl, .inl (by omega), 97, _, rfl, rfl, by show 5 ≤ sizeLine; decide, fun r hr => ?_⟩
    have nrc : r ≠ ca := fun z => by rw [z, upd_same] at hr; cases hr
    have nrp : r ≠ p := fun z => by rw [z, upd_ne (Ne.symm npc), upd_same] at hr; cases hr
    have hr0 : H r = none := by rw [upd_ne nrc, upd_ne nrp] at hr; exact hr
    refine q r ca _ hr0 hca0 nrc (fun b o e => ?_) ?_ ?_
    · rw [upd_ne (ne_of_none e hr0), upd_ne (ne_of_none e hca0)]
      exact hle b o e
    · rw [upd_same, hln]
    · rw [upd_ne (Ne.symm nrc), upd_same]
end DL

set_option Elab.async false
set_option linter.all false
set_option maxRecDepth 100000
set_option maxHeartbeats 4000000
namespace DL
open PySem PySem.Spec PyProof.Rows L2
theorem dfB_one (i : Int) (j : Nat) (x : Str) (b : Expr) (sc : Scope) (p q : Pos) : DfB (some i) x ⟨[], [⟨x, none, p⟩], none, [], [], none, [.Constant (.int i) j q]⟩ b sc := by
  intro q cl T doc pm cv ct v
  unfold bindArgs
  simp only [List.map_nil, List.nil_append, List.map_cons, List.zip_nil_right, List.forIn_nil, pure_bind]
  refine ⟨_, rfl, ?_⟩
  simp [PySem.W.kdv_fn]
section
variable {P : Program} {w : World} {K : PySem.W.Frag} {mg : Str → Option Value} {base : Heap}
/-- fn_ok for a def whose code object is known -/
theorem fn_okC {x qual : Str} {st : Stmt} {f c : Addr} {fd : FuncData} {N ps : List Str} {k : Nat} {b : SM} (F : Fun K x qual st f fd) (hc : fd.code = .ref c) (S : FnScope N ps (defScope st))
    (hb : ∀ (A : Around) (outer : List Env) (s : Shared) (H : Hp) (E : XK), Room k (cxD P w K mg base N qual st f (.ref c) A outer s H E).A → Takes (cxD P w K mg base N qual st f (.ref c) A outer s H E) (wxD E) →
      PassesOwn (model P w) (cxD P w K mg base N qual st f (.ref c) A outer s H E).A (cxD P w K mg base N qual st f (.ref c) A outer s H E).env (cxD P w K mg base N qual st f (.ref c) A outer s H E).xe →
      DSs (cxD P w K mg base N qual st f (.ref c) A outer s H E) (wxD E) (defBody st) b) :
    FnOk P w K mg base (L2.CX P w) (k + 1) f fd ps (spD K mg ps.length (fnD N.length b)) := by
  obtain ⟨oc, od, kV, doc, pm, an, cdv, ct, osl, rfl, lk, hcd⟩ := F.ex
  obtain rfl : cdv = .ref c := hc
  refine fn_of lk hcd S (fun vs H Q E h => h.1) fun A outer s H vs Q E hr h => ⟨_, hb A outer s H E hr (takes_of rfl rfl rfl rfl) (passes_of rfl), ?_⟩
  obtain ⟨hl, ha, hh, G, ds, e, r, q⟩ := h
  refine ⟨⟨ha, H, G⟩, _, hh, G, si_start e r, ?_⟩
  unfold fnD at q
  show PstS K mg (wxD E) ⟨ha, H, G⟩ _ (b (en0 N.length ds) hh)
  cases e1 : b (en0 N.length ds) hh with
  | stuck => rw [e1] at q; exact q
  | err x ρ' h' => rw [e1] at q; exact fun σ' H' G' Cx I' hm => q H' G' Cx I'.ext I'.entry hm
  | ok fl ρ' h' =>
    rw [e1] at q
    cases fl with
    | next => exact fun σ' H' G' I' => q .non H' G' I'.ext I'.entry .non
    | brk => exact False.elim q
    | cont => exact False.elim q
    | ret d => exact fun σ' H' G' I' v rv => q v H' G' I'.ext I'.entry rv
end
end DL

set_option Elab.async false
set_option linter.all false
set_option maxRecDepth 100000
set_option maxHeartbeats 4000000
namespace G66
open PySem PySem.Spec PyProof.Rows L2 DL
def topS (i : Nat) : Stmt := PySem.Challenge.pw_placesayings_k66_whole_codes_put_and_rea.main.body.getD i (.Pass ⟨0, 0, 0, 0⟩)
abbrev FUEL : Nat := 100000
theorem str_0 : ("" : Str) = ⟨([] : List Nat).toArray⟩ := by decide +kernel
theorem str_1 : ("b" : Str) = ⟨([98] : List Nat).toArray⟩ := by decide +kernel
theorem str_2 : ("a" : Str) = ⟨([97] : List Nat).toArray⟩ := by decide +kernel
theorem str_3 : ("ab" : Str) = ⟨([97, 98] : List Nat).toArray⟩ := by decide +kernel
theorem str_4 : ("two" : Str) = ⟨([116, 119, 111] : List Nat).toArray⟩ := by decide +kernel
theorem str_5 : ("sure" : Str) = ⟨([115, 117, 114, 101] : List Nat).toArray⟩ := by decide +kernel
theorem str_6 : ("bab" : Str) = ⟨([98, 97, 98] : List Nat).toArray⟩ := by decide +kernel
theorem str_7 : ("abb" : Str) = ⟨([97, 98, 98] : List Nat).toArray⟩ := by decide +kernel
theorem str_8 : ("aba" : Str) = ⟨([97, 98, 97] : List Nat).toArray⟩ := by decide +kernel
theorem str_9 : ("aab" : Str) = ⟨([97, 97, 98] : List Nat).toArray⟩ := by decide +kernel
theorem str_10 : ("ba" : Str) = ⟨([98, 97] : List Nat).toArray⟩ := by decide +kernel
theorem str_11 : ("c" : Str) = ⟨([99] : List Nat).toArray⟩ := by decide +kernel
theorem str_12 : ("?" : Str) = ⟨([63] : List Nat).toArray⟩ := by decide +kernel
theorem str_13 : ("!NoCode" : Str) = ⟨([33, 78, 111, 67, 111, 100, 101] : List Nat).toArray⟩ := by decide +kernel
theorem str_14 : ("aaa" : Str) = ⟨([97, 97, 97] : List Nat).toArray⟩ := by decide +kernel
theorem str_15 : ("aa" : Str) = ⟨([97, 97] : List Nat).toArray⟩ := by decide +kernel
theorem str_16 : ("ababb" : Str) = ⟨([97, 98, 97, 98, 98] : List Nat).toArray⟩ := by decide +kernel
theorem str_17 : ("abbab" : Str) = ⟨([97, 98, 98, 97, 98] : List Nat).toArray⟩ := by decide +kernel
theorem str_18 : ("abc" : Str) = ⟨([97, 98, 99] : List Nat).toArray⟩ := by decide +kernel
theorem str_19 : ("!NoWord" : Str) = ⟨([33, 78, 111, 87, 111, 114, 100] : List Nat).toArray⟩ := by decide +kernel
abbrev s_is_sized : Stmt := topS 6
abbrev N_is_sized : List Str := ["thing", "least", "most"]
theorem sc_is_sized : FnScope N_is_sized ["thing", "least", "most"] (defScope s_is_sized) := ⟨rfl, rfl, rfl, by decide +kernel, rfl, by decide +kernel, by decide +kernel⟩
abbrev s_is_letters : Stmt := topS 7
abbrev N_is_letters : List Str := ["thing", "most", "sign"]
theorem sc_is_letters : FnScope N_is_letters ["thing", "most"] (defScope s_is_letters) := ⟨rfl, rfl, rfl, by decide +kernel, rfl, by decide +kernel, by decide +kernel⟩
abbrev s_check_word : Stmt := topS 8
abbrev N_check_word : List Str := ["word", "most"]
theorem sc_check_word : FnScope N_check_word ["word", "most"] (defScope s_check_word) := ⟨rfl, rfl, rfl, by decide +kernel, rfl, by decide +kernel, by decide +kernel⟩
abbrev s_is_code : Stmt := topS 15
abbrev N_is_code : List Str := ["thing", "one"]
theorem sc_is_code : FnScope N_is_code ["thing"] (defScope s_is_code) := ⟨rfl, rfl, rfl, by decide +kernel, rfl, by decide +kernel, by decide +kernel⟩
abbrev s_check_code : Stmt := topS 16
abbrev N_check_code : List Str := ["code"]
theorem sc_check_code : FnScope N_check_code ["code"] (defScope s_check_code) := ⟨rfl, rfl, rfl, by decide +kernel, rfl, by decide +kernel, by decide +kernel⟩
abbrev s_raw_image : Stmt := topS 17
abbrev N_raw_image : List Str := ["code", "word", "letter"]
theorem sc_raw_image : FnScope N_raw_image ["code", "word"] (defScope s_raw_image) := ⟨rfl, rfl, rfl, by decide +kernel, rfl, by decide +kernel, by decide +kernel⟩
abbrev s_image : Stmt := topS 18
abbrev N_image : List Str := ["code", "word"]
theorem sc_image : FnScope N_image ["code", "word"] (defScope s_image) := ⟨rfl, rfl, rfl, by decide +kernel, rfl, by decide +kernel, by decide +kernel⟩
abbrev s_counts_back : Stmt := topS 19
abbrev N_counts_back : List Str := ["code", "word", "found", "end", "many", "put"]
theorem sc_counts_back : FnScope N_counts_back ["code", "word"] (defScope s_counts_back) := ⟨rfl, rfl, rfl, by decide +kernel, rfl, by decide +kernel, by decide +kernel⟩
abbrev s_many_back : Stmt := topS 20
abbrev N_many_back : List Str := ["code", "word", "many"]
theorem sc_many_back : FnScope N_many_back ["code", "word"] (defScope s_many_back) := ⟨rfl, rfl, rfl, by decide +kernel, rfl, by decide +kernel, by decide +kernel⟩
abbrev s_read_back : Stmt := topS 21
abbrev N_read_back : List Str := ["code", "word", "best", "end", "some", "letter", "put", "begin"]
theorem sc_read_back : FnScope N_read_back ["code", "word"] (defScope s_read_back) := ⟨rfl, rfl, rfl, by decide +kernel, rfl, by decide +kernel, by decide +kernel⟩
abbrev s_raw_sure : Stmt := topS 22
abbrev N_raw_sure : List Str := ["code"]
theorem sc_raw_sure : FnScope N_raw_sure ["code"] (defScope s_raw_sure) := ⟨rfl, rfl, rfl, by decide +kernel, rfl, by decide +kernel, by decide +kernel⟩
abbrev s_sure_told : Stmt := topS 23
abbrev N_sure_told : List Str := ["code"]
theorem sc_sure_told : FnScope N_sure_told ["code"] (defScope s_sure_told) := ⟨rfl, rfl, rfl, by decide +kernel, rfl, by decide +kernel, by decide +kernel⟩
abbrev s_is_sure_told : Stmt := topS 24
abbrev N_is_sure_told : List Str := ["code", "thing", "one"]
theorem sc_is_sure_told : FnScope N_is_sure_told ["code", "thing"] (defScope s_is_sure_told) := ⟨rfl, rfl, rfl, by decide +kernel, rfl, by decide +kernel, by decide +kernel⟩
abbrev s_joined_codes : Stmt := topS 25
abbrev N_joined_codes : List Str := ["one", "other", "found"]
theorem sc_joined_codes : FnScope N_joined_codes ["one", "other"] (defScope s_joined_codes) := ⟨rfl, rfl, rfl, by decide +kernel, rfl, by decide +kernel, by decide +kernel⟩
abbrev s_begins_alike : Stmt := topS 26
abbrev N_begins_alike : List Str := ["code", "size"]
theorem sc_begins_alike : FnScope N_begins_alike ["code"] (defScope s_begins_alike) := ⟨rfl, rfl, rfl, by decide +kernel, rfl, by decide +kernel, by decide +kernel⟩
abbrev s_told_at_once : Stmt := topS 27
abbrev N_told_at_once : List Str := ["code", "least"]
theorem sc_told_at_once : FnScope N_told_at_once ["code"] (defScope s_told_at_once) := ⟨rfl, rfl, rfl, by decide +kernel, rfl, by decide +kernel, by decide +kernel⟩
abbrev s__law_hand : Stmt := topS 29
abbrev N__law_hand : List Str := ["script", "cells", "cell"]
theorem sc__law_hand : FnScope N__law_hand ["script"] (defScope s__law_hand) := ⟨rfl, rfl, rfl, by decide +kernel, rfl, by decide +kernel, by decide +kernel⟩
abbrev s__law_draw : Stmt := topS 30
abbrev N__law_draw : List Str := ["hand", "many", "number", "cell", "digit"]
theorem sc__law_draw : FnScope N__law_draw ["hand", "many"] (defScope s__law_draw) := ⟨rfl, rfl, rfl, by decide +kernel, rfl, by decide +kernel, by decide +kernel⟩
abbrev s__law_any : Stmt := topS 31
abbrev N__law_any : List Str := ["hand", "some"]
theorem sc__law_any : FnScope N__law_any ["hand", "some"] (defScope s__law_any) := ⟨rfl, rfl, rfl, by decide +kernel, rfl, by decide +kernel, by decide +kernel⟩
abbrev s__law_is : Stmt := topS 32
abbrev N__law_is : List Str := ["given", "due", "mine", "its"]
theorem sc__law_is : FnScope N__law_is ["given", "due"] (defScope s__law_is) := ⟨rfl, rfl, rfl, by decide +kernel, rfl, by decide +kernel, by decide +kernel⟩
abbrev s__law_word : Stmt := topS 33
abbrev N__law_word : List Str := ["call", "found", "e", "flags"]
theorem sc__law_word : FnScope N__law_word ["call"] (defScope s__law_word) := ⟨rfl, rfl, rfl, by decide +kernel, rfl, by decide +kernel, by decide +kernel⟩
abbrev s__law_code : Stmt := topS 34
abbrev N__law_code : List Str := ["hand", "some", "turn", "root", "pairs", "part"]
theorem sc__law_code : FnScope N__law_code ["hand"] (defScope s__law_code) := ⟨rfl, rfl, rfl, by decide +kernel, rfl, by decide +kernel, by decide +kernel⟩
abbrev s__law_image : Stmt := topS 35
abbrev N__law_image : List Str := ["code", "word", "letter"]
theorem sc__law_image : FnScope N__law_image ["code", "word"] (defScope s__law_image) := ⟨rfl, rfl, rfl, by decide +kernel, rfl, by decide +kernel, by decide +kernel⟩
abbrev s__law_backs : Stmt := topS 36
abbrev N__law_backs : List Str := ["code", "word", "parts", "rows", "at", "found", "here", "letter", "part", "one"]
theorem sc__law_backs : FnScope N__law_backs ["code", "word"] (defScope s__law_backs) := ⟨rfl, rfl, rfl, by decide +kernel, rfl, by decide +kernel, by decide +kernel⟩
abbrev s__law_is_two : Stmt := topS 37
abbrev N__law_is_two : List Str := ["code", "thing", "word", "letter"]
theorem sc__law_is_two : FnScope N__law_is_two ["code", "thing"] (defScope s__law_is_two) := ⟨rfl, rfl, rfl, by decide +kernel, rfl, by decide +kernel, by decide +kernel⟩
abbrev s__law_sure_right : Stmt := topS 38
abbrev N__law_sure_right : List Str := ["hand", "code", "is_sure", "told", "words", "things", "turn", "thing", "one", "other", "flag"]
theorem sc__law_sure_right : FnScope N__law_sure_right ["hand", "code"] (defScope s__law_sure_right) := ⟨rfl, rfl, rfl, by decide +kernel, rfl, by decide +kernel, by decide +kernel⟩
abbrev s__law_case_right : Stmt := topS 39
abbrev N__law_case_right : List Str := ["hand", "turn", "same", "at", "flag", "due", "code", "later", "word", "whole", "text", "one", "other", "least_so", "many", "part"]
theorem sc__law_case_right : FnScope N__law_case_right ["hand"] (defScope s__law_case_right) := ⟨rfl, rfl, rfl, by decide +kernel, rfl, by decide +kernel, by decide +kernel⟩
abbrev s_law : Stmt := topS 40
abbrev N_law : List Str := ["script", "hand", "told", "bad", "words", "turn"]
theorem sc_law : FnScope N_law ["script"] (defScope s_law) := ⟨rfl, rfl, rfl, by decide +kernel, rfl, by decide +kernel, by decide +kernel⟩
end G66


set_option Elab.async false
set_option linter.all false
set_option maxRecDepth 100000
set_option maxHeartbeats 4000000
namespace G66
open PySem PySem.Spec PyProof.Rows L2 DL LamX

/-- what the top leaves of the error classes -/
structure ExcT (K : PySem.W.Frag) (mg : Str → Option Value) where
  cC : Addr
  cW : Addr
  cS : Addr
  gC : mg "NoCode" = some (.ref cC)
  gW : mg "NoWord" = some (.ref cW)
  gS : mg "SayError" = some (.ref cS)
  nV : mg "ValueError" = none
  nI : mg "isinstance" = none
  xC : ExcC K cC
  xW : ExcC K cW
  kCC : PySem.W.kitOne K (.ref cC) (.ref cC) = some true
  kCW : PySem.W.kitOne K (.ref cC) (.ref cW) = some false
  kCV : PySem.W.kitOne K (.ref cC) (.type "ValueError") = some true
  kWC : PySem.W.kitOne K (.ref cW) (.ref cC) = some false
  kWW : PySem.W.kitOne K (.ref cW) (.ref cW) = some true
  kWV : PySem.W.kitOne K (.ref cW) (.type "ValueError") = some true
  eC : PySem.W.exmOne K (.ref cC) (.ref cS) = some true
  eW : PySem.W.exmOne K (.ref cW) (.ref cS) = some true

/-! ### l.count(x), alike flat data -/
abbrev blP : Bool → PyData := PyData.bool
def rCntB (K : PySem.W.Frag) : V → List V → Hp → VK → Prop := fun x xs H Q => ∃ (a : Addr) (bs : List Bool) (b : Bool), x = V.ref a ∧ xs = [.bl b] ∧ SqL K H a (bs.map V.bl) ∧ Q (.int (bs.count b : Nat)) H
theorem dp_bls {K : PySem.W.Frag} {H : Hp} : ∀ bs : List Bool, DpAll K H (bs.map V.bl) (bs.map PyData.bool)
  | [] => .nil
  | b :: bs => .cons (.bl b) (dp_bls bs)
theorem mt_cntB {X : Cx} (hu : X.A.units + 64 < cLine) : MtR X "list.count" (rCntB X.K) := by
  intro pins s σ H x xs v us Q I rx rxs h
  obtain ⟨a, bs, b, rfl, rfl, hs, q⟩ := h
  cases rx
  cases rxs with
  | cons ry rt =>
    cases rt
    cases ry
    obtain ⟨its, rv, hl, hz⟩ := I.list hs
    obtain ⟨as, ra⟩ := Dp.readsAll I (bs.map PyData.bool) _ its (dp_bls bs) rv
    have hp : PyData.plainAll (bs.map PyData.bool) = true := by
      generalize bs = l
      induction l with
      | nil => rfl
      | cons b l ih => exact ih
    have hd : PyData.depthAll (bs.map PyData.bool) = 0 := by
      generalize bs = l
      induction l with
      | nil => rfl
      | cons b l ih => show max 0 (PyData.depthAll (l.map PyData.bool)) = 0; rw [ih]; rfl
    refine SeqAt.count_list_data (vs := its.toArray) (xs := bs.map PyData.bool) (d := .bool b) hl.isList ra (.bool b) hp rfl (by rw [hd]; show X.A.units + 1 + min 0 0 < cLine; omega) ?_
    have e : (List.countP (fun y => PyData.eqv y (.bool b)) (bs.map PyData.bool)) = bs.count b := by
      rw [List.countP_map]
      rfl
    rw [e]
    exact ⟨.int _, H, I.tok _, ⟨_, rfl⟩, q⟩

/-! ### _law_word(lambda: ..) -/
def TTw (K : PySem.W.Frag) (mg : Str → Option Value) : (XK → Hp → VK → Prop) → Hp → VK → Prop := fun tl H Q =>
  tl (fun cls d H' => d = none ∧ ∃ (x : Str) (t : Str), ((x = "NoCode" ∧ t = "!NoCode") ∨ (x = "NoWord" ∧ t = "!NoWord")) ∧ mg x = some cls ∧ ∀ H'', Le H' H'' → Q (.str t) H'') H Q
def tsW (mg : Str → Option Value) (cls : Value) (a : Addr) (d : Option Addr) : TS := fun D σ H => d = none ∧ ∃ (x : Str) (t : Str), ((x = "NoCode" ∧ t = "!NoCode") ∨ (x = "NoWord" ∧ t = "!NoWord")) ∧ mg x = some cls ∧
  (σ.length = 4 → σ[2]? = some (some (.ref a)) ∧ ∀ p H'', Le H H'' → D.nx ((σ.set 3 (some (.ref p))).set 1 (some (.str t))) H'')
theorem le_upd {H : Hp} {p : Addr} {o : HO} (hp : H p = none) : Le H (upd H p o) := fun a u e => by rw [upd_ne (ne_of_none e hp)]; exact e
section
variable {X : Cx}
def suiteW : List Stmt := match defBody s__law_word with
  | [_, .Try _ [.ExceptHandler _ _ su _] _ _ _, _] => su
  | _ => []
theorem bls2 (b1 b2 : Bool) : [V.bl b1, V.bl b2] = [b1, b2].map V.bl := rfl
theorem word_gives {Ng : List Str} {g : Addr} {cdg : Value} {k : Nat} (hNg : Ng = N__law_word) (T : ExcT X.K X.mg) (hr : Room (k + 1) X.A) :
    GivesD X Ng "_law_word" (defScope s__law_word) g cdg (defBody s__law_word) "call" (TTw X.K X.mg) := by
  subst hNg
  intro f Z s H Q tl act hc h
  have hu : (cxOf C8.CX0 X.prog X.w X.K X.mg X.base N__law_word "_law_word" (defScope s__law_word) g cdg X.A X.stack s H C8.E0).A.units + 64 < cLine := (hr.deeper _).units
  refine ⟨_, pss_cons (ps_set (i := 1) sc__law_word.nd rfl (Or.inl rfl) pe_str) (pss_cons (ps_try_as (X := (cxOf C8.CX0 X.prog X.w X.K X.mg X.base N__law_word "_law_word" (defScope s__law_word) g cdg X.A X.stack s H C8.E0).nox) (i := 2) (c := .ref T.cS)
      (tb := fun W D σ H => ∃ Ech : XK, (∀ cls d σ' H', Ech cls d H' → W cls d σ' H') ∧ σ[0]? = some (some (.ref f)) ∧ Z H ∧ tl Ech H fun v H' => D.nx (σ.set 1 (some v)) H')
      (ts := fun a cls d => tsW X.mg cls a d) (Wout := fun _ _ _ _ => False) rfl rfl sc__law_word.nd rfl rfl ⟨rfl, by decide, Or.inl T.gS⟩ L2.takes0 (fun W pn xe tk _ => ?_) (fun a oe cls d pn hz hf => ?_)) (pss_one (ps_ret (pv 1)))), ?_⟩
  · refine pss_one ⟨fun pins s' σ H' D I h' => ?_⟩
    obtain ⟨Ech, hW, h1, h2, h3⟩ := h'
    exact (ps_set (i := 1) sc__law_word.nd rfl (Or.inl rfl) (act W pn xe Ech _ _ tk hW)).run pins s' σ H' D I ⟨h1, h2, h3⟩
  · refine ⟨fun pins s' σ H' D I h' => ?_⟩
    obtain ⟨rfl, x, t, hx, hm, h2⟩ := h'
    obtain ⟨e2, h3⟩ := h2 I.len
    have main : ∀ (Dc : Addr) (b1 b2 : Bool), cls = .ref Dc → ExcC X.K Dc → PySem.W.kitOne X.K (.ref Dc) (.ref T.cC) = some b1 → PySem.W.kitOne X.K (.ref Dc) (.ref T.cW) = some b2 → PySem.W.kitOne X.K (.ref Dc) (.type "ValueError") = some true →
        ((b1 = true ∧ b2 = false ∧ t = "!NoCode") ∨ (b1 = false ∧ b2 = true ∧ t = "!NoWord")) → wpAny _ _ _ _ _ _ := fun Dc b1 b2 ec C k1 k2 k3 hb => by
      subst ec
      have hu2 : ((cxOf C8.CX0 X.prog X.w X.K X.mg X.base N__law_word "_law_word" (defScope s__law_word) g cdg X.A X.stack s H C8.E0).nox.suite a ((a, oe) :: pn)).A.units + 64 < cLine := hu
      refine (show PSs ((cxOf C8.CX0 X.prog X.w X.K X.mg X.base N__law_word "_law_word" (defScope s__law_word) g cdg X.A X.stack s H C8.E0).nox.suite a ((a, oe) :: pn)) suiteW _ from pss_cons (ps_set (i := 3) sc__law_word.nd rfl (Or.inl rfl) (pe_lst (pa_cons (pe_callB (call_isE C hz hf) rfl T.nI PyProof.Rows.boot_isinstance (pa_cons (pv 2) (pa_cons (pe_glob (v := .ref T.cC) rfl T.gC rfl) pa_nil))) (pa_cons (pe_callB (call_isE C hz hf) rfl T.nI PyProof.Rows.boot_isinstance (pa_cons (pv 2) (pa_cons (pe_glob (v := .ref T.cW) rfl T.gW rfl) pa_nil))) pa_nil))))
        (pss_one (ps_if (PW.pt (pw_and (pt_cmpR op_eq (pe_bm PySem.F.plainAttrs_list PySem.F.slot_list_count PySem.F.type_list_count (mt_cntB hu2) (pv 3) (pa_cons pe_bl pa_nil)) pe_int (nomark _)) (pw_and1 (pt_val (pe_callB (call_isE C hz hf) rfl T.nI PyProof.Rows.boot_isinstance (pa_cons (pv 2) (pa_cons (pe_bltn (v := .ty "ValueError") rfl T.nV (by decide +kernel) rfl) pa_nil)))))))
          (pss_one (ps_set (i := 1) sc__law_word.nd rfl (Or.inl rfl) (pe_ix ix_seq (pe_lst (pa_cons pe_str (pa_cons pe_str pa_nil))) (pe_bm PySem.F.plainAttrs_list PySem.F.slot_list_index PySem.F.type_list_index mt_index (pv 3) (pa_cons pe_bl pa_nil)) (fun _ _ => rfl)))) pss_nil))).run pins s' σ H' D I ?_
      have e3 : ∀ v, (σ.set 3 (some v))[2]? = some (some (V.ref a)) := fun v => by rw [List.getElem?_set_ne (by decide)]; exact e2
      have e4 : ∀ v, (σ.set 3 (some v))[3]? = some (some v) := fun v => List.getElem?_set_self (by rw [I.len]; exact Nat.lt_succ_self 3)
      refine ⟨_, e2, ⟨_, _, b1, rfl, fun u r => r, k1, ⟨_, e2, ⟨_, _, b2, rfl, fun u r => r, k2, by show 2 ≤ sizeLine; decide, fun p hp => ?_⟩⟩⟩⟩
      have lp : Le H' (upd H' p (.lst [V.bl b1, V.bl b2])) := le_upd hp
      have sp : SqL X.K (upd H' p (.lst [V.bl b1, V.bl b2])) p ([b1, b2].map V.bl) := .of upd_same
      have cnt : ([b1, b2].count true : Nat) = 1 := by rcases hb with ⟨rfl, rfl, _⟩ | ⟨rfl, rfl, _⟩ <;> rfl
      refine ⟨_, e4 _, .inl ⟨rfl, _, sp⟩, p, [b1, b2], true, rfl, rfl, sp, ?_⟩
      rw [cnt]
      refine ⟨rfl, true, rfl, ?_⟩
      refine (if_pos rfl).mpr ?_
      refine ⟨_, e3 _, _, _, true, rfl, fun u r => r, k3, true, rfl, (if_pos rfl).mpr ?_⟩
      refine ⟨by show 2 ≤ sizeLine; decide, fun p2 hp2 => ?_⟩
      have lp2 := le_upd (o := .lst [V.str "!NoCode", V.str "!NoWord"]) hp2
      have sp2 : SqL X.K (upd (upd H' p (.lst [V.bl b1, V.bl b2])) p2 (.lst [V.str "!NoCode", V.str "!NoWord"])) p [V.bl b1, V.bl b2] := Le.l lp2 sp
      refine ⟨_, e4 _, .inl ⟨rfl, _, sp2⟩, ?_⟩
      rcases hb with ⟨rfl, rfl, rfl⟩ | ⟨rfl, rfl, rfl⟩
      · refine ⟨p, _, _, 0, .bl true, rfl, rfl, sp2, rfl, rfl, rfl, rfl, fun m z' hm => absurd hm (by omega), ?_⟩
        exact .inl ⟨p2, _, _, .str "!NoCode", rfl, rfl, .of upd_same, rfl, h3 p _ (lp.trans lp2)⟩
      · refine ⟨p, _, _, 1, .bl true, rfl, rfl, sp2, rfl, rfl, rfl, rfl, fun m z' hm hz' => ?_, ?_⟩
        · have : m = 0 := by omega
          subst this
          cases hz'
          rfl
        · exact .inl ⟨p2, _, _, .str "!NoWord", rfl, rfl, .of upd_same, rfl, h3 p _ (lp.trans lp2)⟩
    rcases hx with ⟨rfl, rfl⟩ | ⟨rfl, rfl⟩
    · rw [T.gC] at hm
      exact main T.cC true false (Option.some.inj hm).symm T.xC T.kCC T.kCW T.kCV (.inl ⟨rfl, rfl, rfl⟩)
    · rw [T.gW] at hm
      exact main T.cW false true (Option.some.inj hm).symm T.xW T.kWC T.kWW T.kWV (.inr ⟨rfl, rfl, rfl⟩)
  · have l0 : (L2.start N__law_word [V.ref f]).length = 4 := rfl
    refine ⟨fun cls d H' => d = none ∧ ∃ (x : Str) (t : Str), ((x = "NoCode" ∧ t = "!NoCode") ∨ (x = "NoWord" ∧ t = "!NoWord")) ∧ X.mg x = some cls ∧ ∀ H'', Le H' H'' → Q (.str t) H'', fun cls d σ' H' hE => ?_, rfl, hc, ?_⟩
    · obtain ⟨hd, x, t, hx, hm, hq⟩ := hE
      refine ⟨true, ?_, fun _ a na => ⟨hd, x, t, hx, hm, fun hl => ⟨?_, fun p H'' le => ?_⟩⟩, fun z => by cases z⟩
      · rcases hx with ⟨rfl, rfl⟩ | ⟨rfl, rfl⟩
        · rw [T.gC] at hm; cases hm; exact T.eC
        · rw [T.gW] at hm; cases hm; exact T.eW
      · rw [List.length_set] at hl
        exact List.getElem?_set_self (by rw [hl]; decide)
      · rw [List.length_set] at hl
        refine ⟨.str t, ?_, hq H'' le⟩
        rw [List.getElem?_set_ne (by decide)]
        exact List.getElem?_set_self (by rw [List.length_set, List.length_set, hl]; decide)
    · have e : (fun (v : V) (H' : Hp) => ∃ w, ((L2.start N__law_word [V.ref f]).set 1 (some (V.str "!other")) |>.set 1 (some v))[1]? = some (some w) ∧ Q w H') = Q := by
        funext v H'
        exact propext ⟨fun ⟨w, e1, e2⟩ => by
          have e3 : some (some v) = some (some w) := e1
          cases e3
          exact e2, fun z => ⟨v, rfl, z⟩⟩
      have h' : tl (fun cls d H' => d = none ∧ ∃ (x : Str) (t : Str), ((x = "NoCode" ∧ t = "!NoCode") ∨ (x = "NoWord" ∧ t = "!NoWord")) ∧ X.mg x = some cls ∧ ∀ H'', Le H' H'' → Q (.str t) H'') H (fun (v : V) (H' : Hp) => ∃ w, ((L2.start N__law_word [V.ref f]).set 1 (some (V.str "!other")) |>.set 1 (some v))[1]? = some (some w) ∧ Q w H') := by
        rw [e]
        exact h
      exact h'

/-! ### _law_word(lambda: ..) on data -/
def wordM (P : Addr) (q : Str) (f : EM D) : EM D := fun ρ h => if (P, q) ∈ h.T ∧ ∀ p ∈ h.T, p.1 = P → p.2 = q then (match f ρ h with
  | .ok d h' => .ok d h'
  | .err x h' => if x = "NoCode" then .ok (.str [33, 78, 111, 67, 111, 100, 101]) h' else if x = "NoWord" then .ok (.str [33, 78, 111, 87, 111, 114, 100]) h' else .stuck
  | .stuck => .stuck) else .stuck
theorem str_codeX : ("!NoCode" : Str) = ⟨([33, 78, 111, 67, 111, 100, 101] : List Nat).toArray⟩ := by decide +kernel
theorem str_word : ("!NoWord" : Str) = ⟨([33, 78, 111, 87, 111, 114, 100] : List Nat).toArray⟩ := by decide +kernel
theorem si_grow {K : PySem.W.Frag} {c : C} {ρ : En} {h : Hand} {σ : L2.St} {H G H1 : Hp} (I : SI K c ρ h σ H G) (e : ExtD H H1) (t : Tabs h.T H1) : SI K c ρ h σ H1 G := by
  refine ⟨fun a o z => e.1 a o (I.sub a o z) (I.ntG a o z), I.ntG, I.g0, fun a o n t z => e.1 a o (I.h0 a o n t z) t, fun a z => e.2 a (I.d0 a z), I.new, ?_, I.hag, I.h0a, I.len, I.val, fun i ds q => ?_, I.apart, t⟩
  · obtain ⟨ca, z1, z2⟩ := I.hnd
    exact ⟨ca, e.1 _ _ z1 nt_lst, z2⟩
  · obtain ⟨a, vs, y1, y2, y3⟩ := I.own i ds q
    exact ⟨a, vs, y1, e.1 _ _ y2 nt_lst, y3⟩
theorem extD_ext {ha : HA} {H H1 G : Hp} (e : ExtD H H1) : Ext ha H G H1 G := ⟨fun a o _ n z => e.1 a o z n, e.2, Le.refl G, fun a z => .inl z⟩
section
variable {X : Cx} {W : WXd} {dv : Option Int} {px : Str}
theorem e_word {fd : FuncData} {g c P : Addr} {k : Nat} {f : EM D} {params : Arguments} {body : Expr} {scope : Scope} {p lpos pos : Pos} (T : ExcT X.K X.mg) (F : Fun X.K "_law_word" "_law_word" s__law_word g fd) (hm : X.mg "_law_word" = some (.ref g)) (bi : Binds X.K fd ["call"] [])
    (hg : Gl X "_law_word") (TB : TabB X.base X.mg c P) (hcode : X.env.code = .ref c) (hr : Room (k + 2) X.A)
    (L : LamD X.N X.env.scope scope dv px) (hdef : DfE dv params X.env) (hkw : params.kwonlyargs = []) (hbind : DfB dv px params body scope)
    (hbody : ∀ (A : Around) (outer : List Env) (s : Shared) (H : Hp) (E : XK) (f' c' : Addr), Room k (A.deeper (lamEnv X scope s.heap.objs.size f' c')) → Takes (lamCx X A outer s H E scope f' c') (wxD E) → DE (lamCx X A outer s H E scope f' c') (wxD E) .E body f) :
    DE X W .E (.Call (.Name "_law_word" p) [.Lambda params body scope lpos] [] pos) (wordM P (X.env.qual ++ "<lambda>") f) := by
  refine ⟨fun pins s σ H Q J ⟨c0, ρ, h, G, I, q⟩ => ?_⟩
  unfold wordM at q
  by_cases hT : (P, X.env.qual ++ "<lambda>") ∈ h.T ∧ ∀ p ∈ h.T, p.1 = P → p.2 = X.env.qual ++ "<lambda>"
  · rw [if_pos hT] at q
    obtain ⟨oc, od, kV, doc, pm, an, cdv, ct, osl, rfl, lk, hcd⟩ := F.ex
    refine (pe_lamD (k := k) (dv := dv) (px := px) (T := h.T) (TT := TTw X.K X.mg) (t := fun E => tE X.K X.mg (wxD E) .E f) hg hm F.kp lk hcd bi sc__law_word rfl (Or.inl rfl) (word_gives rfl T hr) TB hcode hT.1 hT.2 hr L hdef hkw hbind (fun A outer s H E f' c' hr' => hbody A outer s H E f' c' hr' (takes_of rfl rfl rfl rfl))).run pins s σ H Q J ⟨I.tab, fun H1 eN T1 => ?_⟩
    refine ⟨c0, ρ, h, G, si_grow I eN T1, ?_⟩
    unfold Pst
    cases e : f ρ h with
    | stuck => rw [e] at q; exact False.elim q
    | ok d h' => rw [e] at q; exact fun v H' G' I' E' r' => q v H' G' I' ((extD_ext eN).trans E') r'
    | err x h' =>
      rw [e] at q
      intro H' G' Cx I' E' hmx
      by_cases h1 : x = "NoCode"
      · have q : Pst X.K X.mg W (relK .E X.K) c0 ρ σ H G Q (if x = "NoCode" then .ok (.str [33, 78, 111, 67, 111, 100, 101]) h' else if x = "NoWord" then .ok (.str [33, 78, 111, 87, 111, 114, 100]) h' else .stuck) := q
        rw [if_pos h1] at q
        refine ⟨rfl, x, "!NoCode", .inl ⟨h1, rfl⟩, hmx, fun H'' le => ?_⟩
        have n : New H' G' H'' G' := ⟨le, Le.refl _, Le.trans I'.sub le, I'.ntG, fun a z => .inl z⟩
        rw [str_codeX]
        exact q _ H'' G' (I'.nw n) (((extD_ext eN).trans E').trans n.ext) (.str _)
      · by_cases h2 : x = "NoWord"
        · have q : Pst X.K X.mg W (relK .E X.K) c0 ρ σ H G Q (if x = "NoCode" then .ok (.str [33, 78, 111, 67, 111, 100, 101]) h' else if x = "NoWord" then .ok (.str [33, 78, 111, 87, 111, 114, 100]) h' else .stuck) := q
          rw [if_neg h1, if_pos h2] at q
          refine ⟨rfl, x, "!NoWord", .inr ⟨h2, rfl⟩, hmx, fun H'' le => ?_⟩
          have n : New H' G' H'' G' := ⟨le, Le.refl _, Le.trans I'.sub le, I'.ntG, fun a z => .inl z⟩
          rw [str_word]
          exact q _ H'' G' (I'.nw n) (((extD_ext eN).trans E').trans n.ext) (.str _)
        · have q : Pst X.K X.mg W (relK .E X.K) c0 ρ σ H G Q (if x = "NoCode" then .ok (.str [33, 78, 111, 67, 111, 100, 101]) h' else if x = "NoWord" then .ok (.str [33, 78, 111, 87, 111, 114, 100]) h' else .stuck) := q
          rw [if_neg h1, if_neg h2] at q
          exact False.elim q
  · rw [if_neg hT] at q
    exact False.elim q
end
end
end G66

set_option Elab.async false
set_option linter.all false
set_option maxRecDepth 100000
set_option maxHeartbeats 4000000
namespace G66
open PySem PySem.Spec PyProof.Rows L2 DL
/-- what the top leaves -/
structure Txt (K : PySem.W.Frag) (mg : Str → Option Value) where
  a_is_sized : Addr
  d_is_sized : FuncData
  F_is_sized : Fun K "is_sized" "is_sized" s_is_sized a_is_sized d_is_sized
  g_is_sized : mg "is_sized" = some (.ref a_is_sized)
  a_is_letters : Addr
  d_is_letters : FuncData
  F_is_letters : Fun K "is_letters" "is_letters" s_is_letters a_is_letters d_is_letters
  g_is_letters : mg "is_letters" = some (.ref a_is_letters)
  a_check_word : Addr
  d_check_word : FuncData
  F_check_word : Fun K "check_word" "check_word" s_check_word a_check_word d_check_word
  g_check_word : mg "check_word" = some (.ref a_check_word)
  a_is_code : Addr
  d_is_code : FuncData
  F_is_code : Fun K "is_code" "is_code" s_is_code a_is_code d_is_code
  g_is_code : mg "is_code" = some (.ref a_is_code)
  a_check_code : Addr
  d_check_code : FuncData
  F_check_code : Fun K "check_code" "check_code" s_check_code a_check_code d_check_code
  g_check_code : mg "check_code" = some (.ref a_check_code)
  a_raw_image : Addr
  d_raw_image : FuncData
  F_raw_image : Fun K "raw_image" "raw_image" s_raw_image a_raw_image d_raw_image
  g_raw_image : mg "raw_image" = some (.ref a_raw_image)
  a_image : Addr
  d_image : FuncData
  F_image : Fun K "image" "image" s_image a_image d_image
  g_image : mg "image" = some (.ref a_image)
  a_counts_back : Addr
  d_counts_back : FuncData
  F_counts_back : Fun K "counts_back" "counts_back" s_counts_back a_counts_back d_counts_back
  g_counts_back : mg "counts_back" = some (.ref a_counts_back)
  a_many_back : Addr
  d_many_back : FuncData
  F_many_back : Fun K "many_back" "many_back" s_many_back a_many_back d_many_back
  g_many_back : mg "many_back" = some (.ref a_many_back)
  a_read_back : Addr
  d_read_back : FuncData
  F_read_back : Fun K "read_back" "read_back" s_read_back a_read_back d_read_back
  g_read_back : mg "read_back" = some (.ref a_read_back)
  a_raw_sure : Addr
  d_raw_sure : FuncData
  F_raw_sure : Fun K "raw_sure" "raw_sure" s_raw_sure a_raw_sure d_raw_sure
  g_raw_sure : mg "raw_sure" = some (.ref a_raw_sure)
  a_sure_told : Addr
  d_sure_told : FuncData
  F_sure_told : Fun K "sure_told" "sure_told" s_sure_told a_sure_told d_sure_told
  g_sure_told : mg "sure_told" = some (.ref a_sure_told)
  a_is_sure_told : Addr
  d_is_sure_told : FuncData
  F_is_sure_told : Fun K "is_sure_told" "is_sure_told" s_is_sure_told a_is_sure_told d_is_sure_told
  g_is_sure_told : mg "is_sure_told" = some (.ref a_is_sure_told)
  a_joined_codes : Addr
  d_joined_codes : FuncData
  F_joined_codes : Fun K "joined_codes" "joined_codes" s_joined_codes a_joined_codes d_joined_codes
  g_joined_codes : mg "joined_codes" = some (.ref a_joined_codes)
  a_begins_alike : Addr
  d_begins_alike : FuncData
  F_begins_alike : Fun K "begins_alike" "begins_alike" s_begins_alike a_begins_alike d_begins_alike
  g_begins_alike : mg "begins_alike" = some (.ref a_begins_alike)
  a_told_at_once : Addr
  d_told_at_once : FuncData
  F_told_at_once : Fun K "told_at_once" "told_at_once" s_told_at_once a_told_at_once d_told_at_once
  g_told_at_once : mg "told_at_once" = some (.ref a_told_at_once)
  a__law_hand : Addr
  d__law_hand : FuncData
  F__law_hand : Fun K "_law_hand" "_law_hand" s__law_hand a__law_hand d__law_hand
  g__law_hand : mg "_law_hand" = some (.ref a__law_hand)
  a__law_draw : Addr
  d__law_draw : FuncData
  F__law_draw : Fun K "_law_draw" "_law_draw" s__law_draw a__law_draw d__law_draw
  g__law_draw : mg "_law_draw" = some (.ref a__law_draw)
  a__law_any : Addr
  d__law_any : FuncData
  F__law_any : Fun K "_law_any" "_law_any" s__law_any a__law_any d__law_any
  g__law_any : mg "_law_any" = some (.ref a__law_any)
  a__law_is : Addr
  d__law_is : FuncData
  F__law_is : Fun K "_law_is" "_law_is" s__law_is a__law_is d__law_is
  g__law_is : mg "_law_is" = some (.ref a__law_is)
  a__law_word : Addr
  d__law_word : FuncData
  F__law_word : Fun K "_law_word" "_law_word" s__law_word a__law_word d__law_word
  g__law_word : mg "_law_word" = some (.ref a__law_word)
  a__law_code : Addr
  d__law_code : FuncData
  F__law_code : Fun K "_law_code" "_law_code" s__law_code a__law_code d__law_code
  g__law_code : mg "_law_code" = some (.ref a__law_code)
  a__law_image : Addr
  d__law_image : FuncData
  F__law_image : Fun K "_law_image" "_law_image" s__law_image a__law_image d__law_image
  g__law_image : mg "_law_image" = some (.ref a__law_image)
  a__law_backs : Addr
  d__law_backs : FuncData
  F__law_backs : Fun K "_law_backs" "_law_backs" s__law_backs a__law_backs d__law_backs
  g__law_backs : mg "_law_backs" = some (.ref a__law_backs)
  a__law_is_two : Addr
  d__law_is_two : FuncData
  F__law_is_two : Fun K "_law_is_two" "_law_is_two" s__law_is_two a__law_is_two d__law_is_two
  g__law_is_two : mg "_law_is_two" = some (.ref a__law_is_two)
  a__law_sure_right : Addr
  d__law_sure_right : FuncData
  F__law_sure_right : Fun K "_law_sure_right" "_law_sure_right" s__law_sure_right a__law_sure_right d__law_sure_right
  g__law_sure_right : mg "_law_sure_right" = some (.ref a__law_sure_right)
  cd__law_case_right : Addr
  tb__law_case_right : Addr
  a__law_case_right : Addr
  d__law_case_right : FuncData
  F__law_case_right : Fun K "_law_case_right" "_law_case_right" s__law_case_right a__law_case_right d__law_case_right
  g__law_case_right : mg "_law_case_right" = some (.ref a__law_case_right)
  cd_law : Addr
  tb_law : Addr
  a_law : Addr
  d_law : FuncData
  F_law : Fun K "law" "law" s_law a_law d_law
  g_law : mg "law" = some (.ref a_law)
  k__law_case_right : d__law_case_right.code = .ref cd__law_case_right
  k_law : d_law.code = .ref cd_law
  ex : ExcT K mg
  n_ValueError : mg "ValueError" = none
  n_abs : mg "abs" = none
  n_all : mg "all" = none
  n_bool : mg "bool" = none
  n_int : mg "int" = none
  n_isinstance : mg "isinstance" = none
  n_len : mg "len" = none
  n_list : mg "list" = none
  n_max : mg "max" = none
  n_min : mg "min" = none
  n_range : mg "range" = none
  n_sorted : mg "sorted" = none
  n_str : mg "str" = none
  n_tuple : mg "tuple" = none
  n_zip : mg "zip" = none
  c_LETTERS : ConstIs K mg "LETTERS" (.str [97, 98])
  c_MOST_PUT : ConstIs K mg "MOST_PUT" (.int 4)
  c_MOST_READ : ConstIs K mg "MOST_READ" (.int 40)
  c_MOST_WORD : ConstIs K mg "MOST_WORD" (.int 12)
  c_SURE : ConstIs K mg "SURE" (.str [115, 117, 114, 101])
  c_TWO : ConstIs K mg "TWO" (.str [116, 119, 111])
  x_NoCode : ExcIs K mg "NoCode"
  x_NoWord : ExcIs K mg "NoWord"
section
variable {P : Program} {w : World} {K : PySem.W.Frag} {mg : Str → Option Value} {base : Heap}
theorem bi_is_sized (T : Txt K mg) : Binds K T.d_is_sized ["thing", "least", "most"] [] := T.F_is_sized.binds fun _ _ _ _ _ _ us hl => match us, hl with | [_, _, _], _ => rfl
theorem bi_is_letters (T : Txt K mg) : Binds K T.d_is_letters ["thing", "most"] [] := T.F_is_letters.binds fun _ _ _ _ _ _ us hl => match us, hl with | [_, _], _ => rfl
theorem bi_check_word (T : Txt K mg) : Binds K T.d_check_word ["word", "most"] [] := T.F_check_word.binds fun _ _ _ _ _ _ us hl => match us, hl with | [_, _], _ => rfl
theorem bi_is_code (T : Txt K mg) : Binds K T.d_is_code ["thing"] [] := T.F_is_code.binds fun _ _ _ _ _ _ us hl => match us, hl with | [_], _ => rfl
theorem bi_check_code (T : Txt K mg) : Binds K T.d_check_code ["code"] [] := T.F_check_code.binds fun _ _ _ _ _ _ us hl => match us, hl with | [_], _ => rfl
theorem bi_raw_image (T : Txt K mg) : Binds K T.d_raw_image ["code", "word"] [] := T.F_raw_image.binds fun _ _ _ _ _ _ us hl => match us, hl with | [_, _], _ => rfl
theorem bi_image (T : Txt K mg) : Binds K T.d_image ["code", "word"] [] := T.F_image.binds fun _ _ _ _ _ _ us hl => match us, hl with | [_, _], _ => rfl
theorem bi_counts_back (T : Txt K mg) : Binds K T.d_counts_back ["code", "word"] [] := T.F_counts_back.binds fun _ _ _ _ _ _ us hl => match us, hl with | [_, _], _ => rfl
theorem bi_many_back (T : Txt K mg) : Binds K T.d_many_back ["code", "word"] [] := T.F_many_back.binds fun _ _ _ _ _ _ us hl => match us, hl with | [_, _], _ => rfl
theorem bi_read_back (T : Txt K mg) : Binds K T.d_read_back ["code", "word"] [] := T.F_read_back.binds fun _ _ _ _ _ _ us hl => match us, hl with | [_, _], _ => rfl
theorem bi_raw_sure (T : Txt K mg) : Binds K T.d_raw_sure ["code"] [] := T.F_raw_sure.binds fun _ _ _ _ _ _ us hl => match us, hl with | [_], _ => rfl
theorem bi_sure_told (T : Txt K mg) : Binds K T.d_sure_told ["code"] [] := T.F_sure_told.binds fun _ _ _ _ _ _ us hl => match us, hl with | [_], _ => rfl
theorem bi_is_sure_told (T : Txt K mg) : Binds K T.d_is_sure_told ["code", "thing"] [] := T.F_is_sure_told.binds fun _ _ _ _ _ _ us hl => match us, hl with | [_, _], _ => rfl
theorem bi_joined_codes (T : Txt K mg) : Binds K T.d_joined_codes ["one", "other"] [] := T.F_joined_codes.binds fun _ _ _ _ _ _ us hl => match us, hl with | [_, _], _ => rfl
theorem bi_begins_alike (T : Txt K mg) : Binds K T.d_begins_alike ["code"] [] := T.F_begins_alike.binds fun _ _ _ _ _ _ us hl => match us, hl with | [_], _ => rfl
theorem bi_told_at_once (T : Txt K mg) : Binds K T.d_told_at_once ["code"] [] := T.F_told_at_once.binds fun _ _ _ _ _ _ us hl => match us, hl with | [_], _ => rfl
theorem bi__law_hand (T : Txt K mg) : Binds K T.d__law_hand ["script"] [] := T.F__law_hand.binds fun _ _ _ _ _ _ us hl => match us, hl with | [_], _ => rfl
theorem bi__law_draw (T : Txt K mg) : Binds K T.d__law_draw ["hand", "many"] [] := T.F__law_draw.binds fun _ _ _ _ _ _ us hl => match us, hl with | [_, _], _ => rfl
theorem bi__law_any (T : Txt K mg) : Binds K T.d__law_any ["hand", "some"] [] := T.F__law_any.binds fun _ _ _ _ _ _ us hl => match us, hl with | [_, _], _ => rfl
theorem bi__law_is (T : Txt K mg) : Binds K T.d__law_is ["given", "due"] [] := T.F__law_is.binds fun _ _ _ _ _ _ us hl => match us, hl with | [_, _], _ => rfl
theorem bi__law_word (T : Txt K mg) : Binds K T.d__law_word ["call"] [] := T.F__law_word.binds fun _ _ _ _ _ _ us hl => match us, hl with | [_], _ => rfl
theorem bi__law_code (T : Txt K mg) : Binds K T.d__law_code ["hand"] [] := T.F__law_code.binds fun _ _ _ _ _ _ us hl => match us, hl with | [_], _ => rfl
theorem bi__law_image (T : Txt K mg) : Binds K T.d__law_image ["code", "word"] [] := T.F__law_image.binds fun _ _ _ _ _ _ us hl => match us, hl with | [_, _], _ => rfl
theorem bi__law_backs (T : Txt K mg) : Binds K T.d__law_backs ["code", "word"] [] := T.F__law_backs.binds fun _ _ _ _ _ _ us hl => match us, hl with | [_, _], _ => rfl
theorem bi__law_is_two (T : Txt K mg) : Binds K T.d__law_is_two ["code", "thing"] [] := T.F__law_is_two.binds fun _ _ _ _ _ _ us hl => match us, hl with | [_, _], _ => rfl
theorem bi__law_sure_right (T : Txt K mg) : Binds K T.d__law_sure_right ["hand", "code"] [] := T.F__law_sure_right.binds fun _ _ _ _ _ _ us hl => match us, hl with | [_, _], _ => rfl
theorem bi__law_case_right (T : Txt K mg) : Binds K T.d__law_case_right ["hand"] [] := T.F__law_case_right.binds fun _ _ _ _ _ _ us hl => match us, hl with | [_], _ => rfl
theorem bi_law (T : Txt K mg) : Binds K T.d_law ["script"] [] := T.F_law.binds fun _ _ _ _ _ _ us hl => match us, hl with | [_], _ => rfl
/-! ### is_sized -/
def B_is_sized : SM :=
    retS (andV (mapM1 (nameM 0) (isiD "tuple")) (blM (chainM (nameM 1) (mapM1 (consM (nameM 0) (pureM [])) lenD) (nameM 2))))
def F_is_sized : List D → Hand → RE D := fnD 3 B_is_sized
theorem ok_is_sized (T : Txt K mg) : FnOk P w K mg base (L2.CX P w) 1 T.a_is_sized T.d_is_sized ["thing", "least", "most"] (spD K mg 3 F_is_sized) :=
  fn_ok T.F_is_sized sc_is_sized fun cdv A outer s H E hr tk po =>
    ss_one (s_ret (e_and (e_isi (T := "tuple") rfl T.n_isinstance (V_E (e_name 0)) rfl T.n_tuple (by decide +kernel)) (e_one (e_chain (e_name 1) (e_cb call_len len_ok rfl T.n_len (by decide +kernel) (v_cons (V_E (e_name 0)) (v_nil))) (e_name 2)))))
/-! ### is_letters -/
def B_is_letters : SM :=
    retS (andV (mapM1 (nameM 0) (isiD "str")) (andV (blM (opB leB (mapM1 (consM (nameM 0) (pureM [])) lenD) (nameM 1))) (mapM1 (consM (compM (seqItems (nameM 0)) (tgN 2) [2] (pureM true) (blM (opB inB (nameM 2) (pureM (.str [97, 98]))))) (pureM [])) allD)))
def F_is_letters : List D → Hand → RE D := fnD 3 B_is_letters
theorem ok_is_letters (T : Txt K mg) : FnOk P w K mg base (L2.CX P w) 1 T.a_is_letters T.d_is_letters ["thing", "most"] (spD K mg 2 F_is_letters) :=
  fn_ok T.F_is_letters sc_is_letters fun cdv A outer s H E hr tk po =>
    ss_one (s_ret (e_and (e_isi (T := "str") rfl T.n_isinstance (V_E (e_name 0)) rfl T.n_str (by decide +kernel)) (e_and (e_cmp op_le le_ok (V_E (e_cb call_len len_ok rfl T.n_len (by decide +kernel) (v_cons (V_E (e_name 0)) (v_nil)))) (V_E (e_name 1)) (nomark _)) (e_one (e_cb (cr_all rfl) all_ok rfl T.n_all (by decide +kernel) (v_cons (V_L (e_lc (own := [("sign", 2)]) rfl sc_is_letters.nd (i_seq (e_name 0)) (blkOk_by (N := N_is_letters) (sc := defScope s_is_letters) (by decide +kernel)) (fun _ _ _ _ _ => pg_name (i := 2) sc_is_letters.nd rfl (by first | exact .inl rfl | exact .inr rfl)) (tr_name 2) (fun _ _ _ _ _ => ts_nil) (fun _ _ _ _ _ => e_cmp op_inA in_ok (V_E (e_name 2)) (V_E (e_const rfl (T.c_LETTERS))) rfl) (by decide))) (v_nil)))))))
/-! ### raw_image -/
def B_raw_image : SM :=
    retS (msM (pureM (.str [])) (consM (compM (seqItems (nameM 1)) (tgN 2) [2] (pureM true) (op2 ixD (nameM 0) (msM (pureM (.str [97, 98])) (consM (nameM 2) (pureM [])) indexD))) (pureM [])) joinD)
def F_raw_image : List D → Hand → RE D := fnD 3 B_raw_image
theorem ok_raw_image (T : Txt K mg) : FnOk P w K mg base (L2.CX P w) 1 T.a_raw_image T.d_raw_image ["code", "word"] (spD K mg 2 F_raw_image) :=
  fn_ok T.F_raw_image sc_raw_image fun cdv A outer s H E hr tk po =>
    ss_one (s_ret (e_join (e_str str_0) (v_cons (V_L (e_lc (own := [("letter", 2)]) rfl sc_raw_image.nd (i_seq (e_name 1)) (blkOk_by (N := N_raw_image) (sc := defScope s_raw_image) (by decide +kernel)) (fun _ _ _ _ _ => pg_name (i := 2) sc_raw_image.nd rfl (by first | exact .inl rfl | exact .inr rfl)) (tr_name 2) (fun _ _ _ _ _ => ts_nil) (fun _ _ _ _ _ => e_ix ix_seq ix_ok (V_E (e_name 0)) (V_E (e_index rfl L2.takes0 (e_const rfl (T.c_LETTERS)) (v_cons (V_E (e_name 2)) (v_nil)))) (fun _ _ => rfl)) (by decide))) (v_nil))))
/-! ### counts_back -/
def B_counts_back : SM :=
    seqS (setLS 2 (lstM (consM (pureM (.int 1)) (pureM []))))
    (seqS (forS (mapM1 (consM (pureM (.int 1)) (consM (op2 addD (mapM1 (consM (nameM 1) (pureM [])) lenD) (pureM (.int 1))) (pureM []))) rng2) (tgN 3)
    (seqS (setS 4 (pureM (.int 0)))
    (seqS (forS (seqItems (nameM 0)) (tgN 5)
    (ifS (andT (opB neB (nameM 5) (pureM (.str []))) (andT (opB leB (mapM1 (consM (nameM 5) (pureM [])) lenD) (nameM 3)) (opB eqB (sliceM (nameM 1) (partM (some (op2 subD (nameM 3) (mapM1 (consM (nameM 5) (pureM [])) lenD)))) (partM (some (nameM 3)))) (nameM 5))))
    (setS 4 (op2 addD (nameM 4) (op2 ixD (viewM 2) (op2 subD (nameM 3) (mapM1 (consM (nameM 5) (pureM [])) lenD)))))
    (skipS)))
    (appS' 2 (nameM 4)))))
    (frzS 2 (retS (nameM 2))))
def F_counts_back : List D → Hand → RE D := fnD 6 B_counts_back
theorem ok_counts_back (T : Txt K mg) : FnOk P w K mg base (L2.CX P w) 1 T.a_counts_back T.d_counts_back ["code", "word"] (spD K mg 2 F_counts_back) :=
  fn_ok T.F_counts_back sc_counts_back fun cdv A outer s H E hr tk po =>
    ss_cons (s_setL (i := 2) sc_counts_back.nd rfl (by first | exact .inl rfl | exact .inr rfl) (e_lst (a_cons (e_int) (a_nil))))
    (ss_cons (s_for po rfl (i_range2 rfl T.n_range (a_cons (e_int) (a_cons (e_bin op_addD add_ok (V_E (e_cb call_len len_ok rfl T.n_len (by decide +kernel) (v_cons (V_E (e_name 1)) (v_nil)))) (V_E (e_int))) (a_nil)))) (pg_name (i := 3) sc_counts_back.nd rfl (by first | exact .inl rfl | exact .inr rfl)) (tr_name 3)
    (ss_cons (s_set (i := 4) sc_counts_back.nd rfl (by first | exact .inl rfl | exact .inr rfl) (e_int))
    (ss_cons (s_for po rfl (i_seq (e_name 0)) (pg_name (i := 5) sc_counts_back.nd rfl (by first | exact .inl rfl | exact .inr rfl)) (tr_name 5)
    (ss_one (s_if (t_w (w_and (t_cmp (op_neA hr.units) ne_ok (V_E (e_name 5)) (V_E (e_str str_0)) (nomark _)) (w_and (t_cmp op_le le_ok (V_E (e_cb call_len len_ok rfl T.n_len (by decide +kernel) (v_cons (V_E (e_name 5)) (v_nil)))) (V_E (e_name 3)) (nomark _)) (w_and1 (t_cmp (op_eqA hr.units) eq_ok (V_E (e_slice (e_name 1) (o_some (e_bin op_sub sub_ok (V_E (e_name 3)) (V_E (e_cb call_len len_ok rfl T.n_len (by decide +kernel) (v_cons (V_E (e_name 5)) (v_nil)))))) (o_some (e_name 3)))) (V_E (e_name 5)) (nomark _))))))
    (ss_one (s_set (i := 4) sc_counts_back.nd rfl (by first | exact .inl rfl | exact .inr rfl) (e_bin op_addD add_ok (V_E (e_name 4)) (V_E (e_ix ix_seq ix_ok (e_view 2) (V_E (e_bin op_sub sub_ok (V_E (e_name 3)) (V_E (e_cb call_len len_ok rfl T.n_len (by decide +kernel) (v_cons (V_E (e_name 5)) (v_nil)))))) (fun _ _ => rfl))))))
    (ss_nil))))
    (ss_one (s_append (i := 2) rfl (by first | exact .inl rfl | exact .inr (.inl rfl) | exact .inr (.inr rfl)) (e_name 4))))))
    (ss_one (s_frz 2 (s_ret (e_name 2)))))
/-! ### raw_sure -/
def B_raw_sure : SM :=
    seqS (ifS (opB eqB (op2 ixD (nameM 0) (pureM (.int 0))) (pureM (.str [])))
    (retS (tupM (consM (pureM (.str [116, 119, 111])) (consM (pureM (.str [])) (consM (op2 ixD (pureM (.str [97, 98])) (pureM (.int 0))) (pureM []))))))
    (skipS))
    (seqS (ifS (opB eqB (op2 ixD (nameM 0) (pureM (.int 1))) (pureM (.str [])))
    (retS (tupM (consM (pureM (.str [116, 119, 111])) (consM (pureM (.str [])) (consM (op2 ixD (pureM (.str [97, 98])) (pureM (.int 1))) (pureM []))))))
    (skipS))
    (seqS (ifS (opB eqB (op2 addD (op2 ixD (nameM 0) (pureM (.int 0))) (op2 ixD (nameM 0) (pureM (.int 1)))) (op2 addD (op2 ixD (nameM 0) (pureM (.int 1))) (op2 ixD (nameM 0) (pureM (.int 0)))))
    (retS (tupM (consM (pureM (.str [116, 119, 111])) (consM (pureM (.str [97, 98])) (consM (revM (pureM (.str [97, 98]))) (pureM []))))))
    (skipS))
    (retS (tupM (consM (pureM (.str [115, 117, 114, 101])) (pureM []))))))
def F_raw_sure : List D → Hand → RE D := fnD 1 B_raw_sure
theorem ok_raw_sure (T : Txt K mg) : FnOk P w K mg base (L2.CX P w) 1 T.a_raw_sure T.d_raw_sure ["code"] (spD K mg 1 F_raw_sure) :=
  fn_ok T.F_raw_sure sc_raw_sure fun cdv A outer s H E hr tk po =>
    ss_cons (s_if (t_cmp (op_eqA hr.units) eq_ok (V_E (e_ix ix_seq ix_ok (V_E (e_name 0)) (V_E (e_int)) (fun _ _ => rfl))) (V_E (e_str str_0)) (nomark _))
    (ss_one (s_ret (e_tup (a_cons (e_const rfl (T.c_TWO)) (a_cons (e_str str_0) (a_cons (e_ix ix_seq ix_ok (V_E (e_const rfl (T.c_LETTERS))) (V_E (e_int)) (fun _ _ => rfl)) (a_nil)))))))
    (ss_nil))
    (ss_cons (s_if (t_cmp (op_eqA hr.units) eq_ok (V_E (e_ix ix_seq ix_ok (V_E (e_name 0)) (V_E (e_int)) (fun _ _ => rfl))) (V_E (e_str str_0)) (nomark _))
    (ss_one (s_ret (e_tup (a_cons (e_const rfl (T.c_TWO)) (a_cons (e_str str_0) (a_cons (e_ix ix_seq ix_ok (V_E (e_const rfl (T.c_LETTERS))) (V_E (e_int)) (fun _ _ => rfl)) (a_nil)))))))
    (ss_nil))
    (ss_cons (s_if (t_cmp (op_eqA hr.units) eq_ok (V_E (e_bin op_addD add_ok (V_E (e_ix ix_seq ix_ok (V_E (e_name 0)) (V_E (e_int)) (fun _ _ => rfl))) (V_E (e_ix ix_seq ix_ok (V_E (e_name 0)) (V_E (e_int)) (fun _ _ => rfl))))) (V_E (e_bin op_addD add_ok (V_E (e_ix ix_seq ix_ok (V_E (e_name 0)) (V_E (e_int)) (fun _ _ => rfl))) (V_E (e_ix ix_seq ix_ok (V_E (e_name 0)) (V_E (e_int)) (fun _ _ => rfl))))) (nomark _))
    (ss_one (s_ret (e_tup (a_cons (e_const rfl (T.c_TWO)) (a_cons (e_const rfl (T.c_LETTERS)) (a_cons (e_rev (e_const rfl (T.c_LETTERS))) (a_nil)))))))
    (ss_nil))
    (ss_one (s_ret (e_tup (a_cons (e_const rfl (T.c_SURE)) (a_nil)))))))
/-! ### _law_draw -/
def B__law_draw : SM :=
    seqS (ifS (andT (opB eqB (handM 0 2) (pureM (.int 0))) (opB ltB (handM 0 1) (mapM1 (consM (handM 0 0) (pureM [])) lenD)))
    (seqS (setS 3 (op2 ixD (handM 0 0) (handM 0 1)))
    (seqS (hstS 0 1 (op2 addD (handM 0 1) (pureM (.int 1))))
    (seqS (hstS 0 3 (op2 modD (mapM1 (consM (op2 addD (op2 addD (op2 mulD (handM 0 3) (pureM (.int 69621))) (op2 mulD (nameM 3) (pureM (.int 40692)))) (pureM (.int 31))) (pureM [])) intD) (pureM (.int 2147483629))))
    (ifS (opB geB (nameM 3) (op2 powD (pureM (.int 10)) (pureM (.int 18))))
    (hstS 0 2 (nameM 3))
    (skipS)))))
    (skipS))
    (seqS (ifS (opB gtB (handM 0 2) (pureM (.int 0)))
    (seqS (setS 4 (op2 modD (mapM1 (consM (handM 0 2) (pureM [])) intD) (nameM 1)))
    (seqS (hstS 0 2 (op2 fdivD (handM 0 2) (nameM 1)))
    (retS (nameM 4))))
    (skipS))
    (seqS (hstS 0 4 (op2 addD (handM 0 4) (pureM (.int 1))))
    (seqS (setS 2 (op2 modD (mapM1 (consM (op2 mulD (mapM1 (consM (op2 addD (handM 0 3) (op2 mulD (pureM (.int 7919)) (handM 0 4))) (pureM [])) intD) (pureM (.int 48271))) (pureM [])) intD) (pureM (.int 2147483647))))
    (seqS (setS 2 (op2 modD (mapM1 (consM (op2 mulD (nameM 2) (op2 addD (op2 fdivD (nameM 2) (pureM (.int 1009))) (pureM (.int 69621)))) (pureM [])) intD) (pureM (.int 2147483647))))
    (seqS (setS 2 (op2 modD (mapM1 (consM (op2 mulD (nameM 2) (op2 addD (op2 fdivD (nameM 2) (pureM (.int 2003))) (pureM (.int 40014)))) (pureM [])) intD) (pureM (.int 2147483563))))
    (retS (op2 modD (mapM1 (consM (op2 fdivD (nameM 2) (pureM (.int 16))) (pureM [])) intD) (nameM 1))))))))
def F__law_draw : List D → Hand → RE D := fnD 5 B__law_draw
theorem ok__law_draw (T : Txt K mg) : FnOk P w K mg base (L2.CX P w) 1 T.a__law_draw T.d__law_draw ["hand", "many"] (spD K mg 2 F__law_draw) :=
  fn_ok T.F__law_draw sc__law_draw fun cdv A outer s H E hr tk po =>
    ss_cons (s_if (t_w (w_and (t_cmp (op_eqA hr.units) eq_ok (V_E (e_hand 0 2)) (V_E (e_int)) (nomark _)) (w_and1 (t_cmp op_lt lt_ok (V_E (e_hand 0 1)) (V_E (e_cb call_len len_ok rfl T.n_len (by decide +kernel) (v_cons (V_E (e_hand 0 0)) (v_nil)))) (nomark _)))))
    (ss_cons (s_set (i := 3) sc__law_draw.nd rfl (by first | exact .inl rfl | exact .inr rfl) (e_ix ix_seq ix_ok (V_E (e_hand 0 0)) (V_E (e_hand 0 1)) (fun _ _ => rfl)))
    (ss_cons (s_hand 0 1 (e_bin op_addD add_ok (V_E (e_hand 0 1)) (V_E (e_int))))
    (ss_cons (s_hand 0 3 (e_bin op_mod mod_ok (V_E (e_cbT call_int1 int_ok rfl T.n_int (by decide +kernel) (v_cons (V_E (e_bin op_addD add_ok (V_E (e_bin op_addD add_ok (V_E (e_bin op_mul mul_ok (V_E (e_hand 0 3)) (V_E (e_int)))) (V_E (e_bin op_mul mul_ok (V_E (e_name 3)) (V_E (e_int)))))) (V_E (e_int)))) (v_nil)))) (V_E (e_int))))
    (ss_one (s_if (t_cmp op_ge ge_ok (V_E (e_name 3)) (V_E (e_bin op_pow pow_ok (V_E (e_int)) (V_E (e_int)))) (nomark _))
    (ss_one (s_hand 0 2 (e_name 3)))
    (ss_nil))))))
    (ss_nil))
    (ss_cons (s_if (t_cmp op_gt gt_ok (V_E (e_hand 0 2)) (V_E (e_int)) (nomark _))
    (ss_cons (s_set (i := 4) sc__law_draw.nd rfl (by first | exact .inl rfl | exact .inr rfl) (e_bin op_mod mod_ok (V_E (e_cbT call_int1 int_ok rfl T.n_int (by decide +kernel) (v_cons (V_E (e_hand 0 2)) (v_nil)))) (V_E (e_name 1))))
    (ss_cons (s_hand 0 2 (e_bin op_fdiv fdiv_ok (V_E (e_hand 0 2)) (V_E (e_name 1))))
    (ss_one (s_ret (e_name 4)))))
    (ss_nil))
    (ss_cons (s_hand 0 4 (e_bin op_addD add_ok (V_E (e_hand 0 4)) (V_E (e_int))))
    (ss_cons (s_set (i := 2) sc__law_draw.nd rfl (by first | exact .inl rfl | exact .inr rfl) (e_bin op_mod mod_ok (V_E (e_cbT call_int1 int_ok rfl T.n_int (by decide +kernel) (v_cons (V_E (e_bin op_mul mul_ok (V_E (e_cbT call_int1 int_ok rfl T.n_int (by decide +kernel) (v_cons (V_E (e_bin op_addD add_ok (V_E (e_hand 0 3)) (V_E (e_bin op_mul mul_ok (V_E (e_int)) (V_E (e_hand 0 4)))))) (v_nil)))) (V_E (e_int)))) (v_nil)))) (V_E (e_int))))
    (ss_cons (s_set (i := 2) sc__law_draw.nd rfl (by first | exact .inl rfl | exact .inr rfl) (e_bin op_mod mod_ok (V_E (e_cbT call_int1 int_ok rfl T.n_int (by decide +kernel) (v_cons (V_E (e_bin op_mul mul_ok (V_E (e_name 2)) (V_E (e_bin op_addD add_ok (V_E (e_bin op_fdiv fdiv_ok (V_E (e_name 2)) (V_E (e_int)))) (V_E (e_int)))))) (v_nil)))) (V_E (e_int))))
    (ss_cons (s_set (i := 2) sc__law_draw.nd rfl (by first | exact .inl rfl | exact .inr rfl) (e_bin op_mod mod_ok (V_E (e_cbT call_int1 int_ok rfl T.n_int (by decide +kernel) (v_cons (V_E (e_bin op_mul mul_ok (V_E (e_name 2)) (V_E (e_bin op_addD add_ok (V_E (e_bin op_fdiv fdiv_ok (V_E (e_name 2)) (V_E (e_int)))) (V_E (e_int)))))) (v_nil)))) (V_E (e_int))))
    (ss_one (s_ret (e_bin op_mod mod_ok (V_E (e_cbT call_int1 int_ok rfl T.n_int (by decide +kernel) (v_cons (V_E (e_bin op_fdiv fdiv_ok (V_E (e_name 2)) (V_E (e_int)))) (v_nil)))) (V_E (e_name 1))))))))))
/-! ### _law_image -/
def B__law_image : SM :=
    retS (msM (pureM (.str [])) (consM (compM (seqItems (nameM 1)) (tgN 2) [2] (pureM true) (op2 ixD (nameM 0) (msM (pureM (.str [97, 98])) (consM (nameM 2) (pureM [])) indexD))) (pureM [])) joinD)
def F__law_image : List D → Hand → RE D := fnD 3 B__law_image
theorem ok__law_image (T : Txt K mg) : FnOk P w K mg base (L2.CX P w) 1 T.a__law_image T.d__law_image ["code", "word"] (spD K mg 2 F__law_image) :=
  fn_ok T.F__law_image sc__law_image fun cdv A outer s H E hr tk po =>
    ss_one (s_ret (e_join (e_str str_0) (v_cons (V_L (e_lc (own := [("letter", 2)]) rfl sc__law_image.nd (i_seq (e_name 1)) (blkOk_by (N := N__law_image) (sc := defScope s__law_image) (by decide +kernel)) (fun _ _ _ _ _ => pg_name (i := 2) sc__law_image.nd rfl (by first | exact .inl rfl | exact .inr rfl)) (tr_name 2) (fun _ _ _ _ _ => ts_nil) (fun _ _ _ _ _ => e_ix ix_seq ix_ok (V_E (e_name 0)) (V_E (e_index rfl L2.takes0 (e_str str_3) (v_cons (V_E (e_name 2)) (v_nil)))) (fun _ _ => rfl)) (by decide))) (v_nil))))
/-! ### _law_backs -/
def B__law_backs : SM :=
    seqS (setLS 2 (compM (mapM1 (consM (pureM (.str [97, 98])) (consM (nameM 0) (pureM []))) zipS) (tgT 2 (tgCons (tgN 7) (tgCons (tgN 8) (tgNil)))) [7, 8] (opB neB (nameM 8) (pureM (.str []))) (tupM (consM (nameM 7) (consM (nameM 8) (pureM []))))))
    (seqS (setLS 3 (lstM (consM (lstM (consM (pureM (.str [])) (pureM []))) (pureM []))))
    (seqS (forS (mapM1 (consM (pureM (.int 1)) (consM (op2 addD (mapM1 (consM (nameM 1) (pureM [])) lenD) (pureM (.int 1))) (pureM []))) rng2) (tgN 4)
    (seqS (setS 6 (lstM (pureM [])))
    (seqS (frzS 2 (forS (seqItems (nameM 2)) (tgT 2 (tgCons (tgN 7) (tgCons (tgN 8) (tgNil))))
    (ifS (andT (opB leB (mapM1 (consM (nameM 8) (pureM [])) lenD) (nameM 4)) (opB eqB (sliceM (nameM 1) (partM (some (op2 subD (nameM 4) (mapM1 (consM (nameM 8) (pureM [])) lenD)))) (partM (some (nameM 4)))) (nameM 8)))
    (setS 6 (op2 catD (nameM 6) (compM (seqItems (op2 ixD (viewM 3) (op2 subD (nameM 4) (mapM1 (consM (nameM 8) (pureM [])) lenD)))) (tgN 9) [9] (pureM true) (op2 addD (nameM 9) (nameM 7)))))
    (skipS))))
    (appS' 3 (nameM 6)))))
    (seqS (setS 5 (mapM1 (consM (compM (seqItems (op2 ixD (viewM 3) (negM (pureM (.int 1))))) (tgN 9) [9] (pureM true) (tupM (consM (mapM1 (consM (nameM 9) (pureM [])) lenD) (consM (nameM 9) (pureM []))))) (pureM [])) sortedQD))
    (seqS (ifS (opB eqB (mapM1 (consM (nameM 5) (pureM [])) lenD) (pureM (.int 0)))
    (retS (tupM (consM (pureM .non) (consM (pureM (.int 0)) (pureM [])))))
    (skipS))
    (retS (tupM (consM (op2 ixD (op2 ixD (nameM 5) (pureM (.int 0))) (pureM (.int 1))) (consM (ifM (opB eqB (mapM1 (consM (viewM 2) (pureM [])) lenD) (pureM (.int 2))) (mapM1 (consM (nameM 5) (pureM [])) lenD) (pureM .non)) (pureM [])))))))))
def F__law_backs : List D → Hand → RE D := fnD 10 B__law_backs
theorem ok__law_backs (T : Txt K mg) : FnOk P w K mg base (L2.CX P w) 1 T.a__law_backs T.d__law_backs ["code", "word"] (spD K mg 2 F__law_backs) :=
  fn_ok T.F__law_backs sc__law_backs fun cdv A outer s H E hr tk po =>
    ss_cons (s_setLc (i := 2) (own := [("letter", 7), ("part", 8)]) rfl sc__law_backs.nd rfl rfl (sw_true rfl rfl rfl (by decide +kernel)) (i_zipS rfl T.n_zip (a_cons (e_str str_3) (a_cons (e_name 0) (a_nil)))) (blkOk_by (N := N__law_backs) (sc := defScope s__law_backs) (by decide +kernel)) (fun _ _ _ _ _ => pg_tup (by rfl) (pgs_cons (pg_name (i := 7) sc__law_backs.nd rfl (by first | exact .inl rfl | exact .inr rfl)) (pgs_cons (pg_name (i := 8) sc__law_backs.nd rfl (by first | exact .inl rfl | exact .inr rfl)) (pgs_nil)))) (tr_tup (n := 2) (tr_cons (tr_name 7) (tr_cons (tr_name 8) (tr_nil)))) (fun _ _ _ _ _ => ts_one (t_cmp (op_neA hr.units) ne_ok (V_E (e_name 8)) (V_E (e_str str_0)) (nomark _))) (fun _ _ _ _ _ => e_tup (a_cons (e_name 7) (a_cons (e_name 8) (a_nil)))) (by decide))
    (ss_cons (s_setL (i := 3) sc__law_backs.nd rfl (by first | exact .inl rfl | exact .inr rfl) (e_lst (a_cons (E_L (e_lst (a_cons (e_str str_0) (a_nil)))) (a_nil))))
    (ss_cons (s_for po rfl (i_range2 rfl T.n_range (a_cons (e_int) (a_cons (e_bin op_addD add_ok (V_E (e_cb call_len len_ok rfl T.n_len (by decide +kernel) (v_cons (V_E (e_name 1)) (v_nil)))) (V_E (e_int))) (a_nil)))) (pg_name (i := 4) sc__law_backs.nd rfl (by first | exact .inl rfl | exact .inr rfl)) (tr_name 4)
    (ss_cons (s_set (i := 6) sc__law_backs.nd rfl (by first | exact .inl rfl | exact .inr rfl) (E_L (e_lst (a_nil))))
    (ss_cons (s_frz 2 (s_for po rfl (i_seq (e_name 2)) (pg_tup (by rfl) (pgs_cons (pg_name (i := 7) sc__law_backs.nd rfl (by first | exact .inl rfl | exact .inr rfl)) (pgs_cons (pg_name (i := 8) sc__law_backs.nd rfl (by first | exact .inl rfl | exact .inr rfl)) (pgs_nil)))) (tr_tup (n := 2) (tr_cons (tr_name 7) (tr_cons (tr_name 8) (tr_nil))))
    (ss_one (s_if (t_w (w_and (t_cmp op_le le_ok (V_E (e_cb call_len len_ok rfl T.n_len (by decide +kernel) (v_cons (V_E (e_name 8)) (v_nil)))) (V_E (e_name 4)) (nomark _)) (w_and1 (t_cmp (op_eqA hr.units) eq_ok (V_E (e_slice (e_name 1) (o_some (e_bin op_sub sub_ok (V_E (e_name 4)) (V_E (e_cb call_len len_ok rfl T.n_len (by decide +kernel) (v_cons (V_E (e_name 8)) (v_nil)))))) (o_some (e_name 4)))) (V_E (e_name 8)) (nomark _)))))
    (ss_one (s_set (i := 6) sc__law_backs.nd rfl (by first | exact .inl rfl | exact .inr rfl) (E_L (e_binL op_cat cat_ok (V_E (e_name 6)) (V_L (e_lc (own := [("one", 9)]) rfl sc__law_backs.nd (i_seq (e_ix ix_seq ix_ok (e_view 3) (V_E (e_bin op_sub sub_ok (V_E (e_name 4)) (V_E (e_cb call_len len_ok rfl T.n_len (by decide +kernel) (v_cons (V_E (e_name 8)) (v_nil)))))) (fun _ _ => rfl))) (blkOk_by (N := N__law_backs) (sc := defScope s__law_backs) (by decide +kernel)) (fun _ _ _ _ _ => pg_name (i := 9) sc__law_backs.nd rfl (by first | exact .inl rfl | exact .inr rfl)) (tr_name 9) (fun _ _ _ _ _ => ts_nil) (fun _ _ _ _ _ => e_bin op_addD add_ok (V_E (e_name 9)) (V_E (e_name 7))) (by decide)))))))
    (ss_nil)))))
    (ss_one (s_append (i := 3) rfl (by first | exact .inl rfl | exact .inr (.inl rfl) | exact .inr (.inr rfl)) (e_name 6))))))
    (ss_cons (s_set (i := 5) sc__law_backs.nd rfl (by first | exact .inl rfl | exact .inr rfl) (E_L (e_cbL (cr_sortedQ rfl hr.units) sortedQ_ok rfl T.n_sorted (by decide +kernel) (v_cons (V_L (e_lc (own := [("one", 9)]) rfl sc__law_backs.nd (i_seq (e_ix ix_seq ix_ok (e_view 3) (V_E (e_neg (e_int))) (fun _ _ => rfl))) (blkOk_by (N := N__law_backs) (sc := defScope s__law_backs) (by decide +kernel)) (fun _ _ _ _ _ => pg_name (i := 9) sc__law_backs.nd rfl (by first | exact .inl rfl | exact .inr rfl)) (tr_name 9) (fun _ _ _ _ _ => ts_nil) (fun _ _ _ _ _ => e_tup (a_cons (e_cb call_len len_ok rfl T.n_len (by decide +kernel) (v_cons (V_E (e_name 9)) (v_nil))) (a_cons (e_name 9) (a_nil)))) (by decide))) (v_nil)))))
    (ss_cons (s_if (t_cmp (op_eqA hr.units) eq_ok (V_E (e_cb call_len len_ok rfl T.n_len (by decide +kernel) (v_cons (V_E (e_name 5)) (v_nil)))) (V_E (e_int)) (nomark _))
    (ss_one (s_ret (e_tup (a_cons (e_non) (a_cons (e_int) (a_nil))))))
    (ss_nil))
    (ss_one (s_ret (e_tup (a_cons (e_ix ix_seq ix_ok (V_E (e_ix ix_seq ix_ok (V_E (e_name 5)) (V_E (e_int)) (fun _ _ => rfl))) (V_E (e_int)) (fun _ _ => rfl)) (a_cons (e_if (t_cmp (op_eqA hr.units) eq_ok (V_E (e_cb call_len len_ok rfl T.n_len (by decide +kernel) (v_cons (e_view 2) (v_nil)))) (V_E (e_int)) (nomark _)) (e_cb call_len len_ok rfl T.n_len (by decide +kernel) (v_cons (V_E (e_name 5)) (v_nil))) (e_non)) (a_nil))))))))))
/-! ### check_word -/
def B_check_word : SM :=
    ifS (notT (valT (callM F_is_letters (consM (nameM 0) (consM (nameM 1) (pureM []))))))
    (raiseS "NoWord")
    (skipS)
def F_check_word : List D → Hand → RE D := fnD 2 B_check_word
theorem ok_check_word (T : Txt K mg) : FnOk P w K mg base (L2.CX P w) 2 T.a_check_word T.d_check_word ["word", "most"] (spD K mg 2 F_check_word) :=
  fn_ok T.F_check_word sc_check_word fun cdv A outer s H E hr tk po =>
    ss_one (s_if (t_not (t_val (e_call (ok_is_letters T) (hr.mono (by decide)) rfl T.g_is_letters T.F_is_letters.kp (bi_is_letters T) tk (a_cons (e_name 0) (a_cons (e_name 1) (a_nil))) (len_cons (len_cons (len_nil))))))
    (ss_one (s_raise rfl tk T.x_NoWord rfl))
    (ss_nil))
/-! ### is_code -/
def B_is_code : SM :=
    retS (andV (callM F_is_sized (consM (nameM 0) (consM (pureM (.int 2)) (consM (pureM (.int 2)) (pureM []))))) (mapM1 (consM (compM (seqItems (nameM 0)) (tgN 1) [1] (pureM true) (callM F_is_letters (consM (nameM 1) (consM (pureM (.int 4)) (pureM []))))) (pureM [])) allD))
def F_is_code : List D → Hand → RE D := fnD 2 B_is_code
theorem ok_is_code (T : Txt K mg) : FnOk P w K mg base (L2.CX P w) 2 T.a_is_code T.d_is_code ["thing"] (spD K mg 1 F_is_code) :=
  fn_ok T.F_is_code sc_is_code fun cdv A outer s H E hr tk po =>
    ss_one (s_ret (e_and (e_call (ok_is_sized T) (hr.mono (by decide)) rfl T.g_is_sized T.F_is_sized.kp (bi_is_sized T) tk (a_cons (e_name 0) (a_cons (e_int) (a_cons (e_int) (a_nil)))) (len_cons (len_cons (len_cons (len_nil))))) (e_one (e_cb (cr_all rfl) all_ok rfl T.n_all (by decide +kernel) (v_cons (V_L (e_lc (own := [("one", 1)]) rfl sc_is_code.nd (i_seq (e_name 0)) (blkOk_by (N := N_is_code) (sc := defScope s_is_code) (by decide +kernel)) (fun _ _ _ _ _ => pg_name (i := 1) sc_is_code.nd rfl (by first | exact .inl rfl | exact .inr rfl)) (tr_name 1) (fun _ _ _ _ _ => ts_nil) (fun _ _ _ _ _ => e_call (ok_is_letters T) (hr.mono (by decide)) rfl T.g_is_letters T.F_is_letters.kp (bi_is_letters T) L2.takes0 (a_cons (e_name 1) (a_cons (e_const rfl (T.c_MOST_PUT)) (a_nil))) (len_cons (len_cons (len_nil)))) (by decide))) (v_nil))))))
/-! ### _law_any -/
def B__law_any : SM :=
    retS (op2 ixD (nameM 1) (callM F__law_draw (consM (nameM 0) (consM (mapM1 (consM (nameM 1) (pureM [])) lenD) (pureM [])))))
def F__law_any : List D → Hand → RE D := fnD 2 B__law_any
theorem ok__law_any (T : Txt K mg) : FnOk P w K mg base (L2.CX P w) 2 T.a__law_any T.d__law_any ["hand", "some"] (spD K mg 2 F__law_any) :=
  fn_ok T.F__law_any sc__law_any fun cdv A outer s H E hr tk po =>
    ss_one (s_ret (e_ix ix_seq ix_ok (V_E (e_name 1)) (V_E (e_call (ok__law_draw T) (hr.mono (by decide)) rfl T.g__law_draw T.F__law_draw.kp (bi__law_draw T) tk (a_cons (e_name 0) (a_cons (e_cb call_len len_ok rfl T.n_len (by decide +kernel) (v_cons (V_E (e_name 1)) (v_nil))) (a_nil))) (len_cons (len_cons (len_nil))))) (fun _ _ => rfl)))
/-! ### _law_is_two -/
def B__law_is_two : SM :=
    seqS (ifS (orT (notT (valT (mapM1 (nameM 1) (isiD "tuple")))) (orT (opB neB (mapM1 (consM (nameM 1) (pureM [])) lenD) (pureM (.int 3))) (opB neB (op2 ixD (nameM 1) (pureM (.int 0))) (pureM (.str [116, 119, 111])))))
    (retS (pureM (.bl false)))
    (skipS))
    (seqS (forS (seqItems (sliceM (nameM 1) (partM (some (pureM (.int 1)))) (partM none))) (tgN 2)
    (ifS (orT (notT (valT (mapM1 (nameM 2) (isiD "str")))) (orT (opB gtB (mapM1 (consM (nameM 2) (pureM [])) lenD) (pureM (.int 12))) (notT (valT (mapM1 (consM (compM (seqItems (nameM 2)) (tgN 3) [3] (pureM true) (blM (opB inB (nameM 3) (pureM (.str [97, 98]))))) (pureM [])) allD)))))
    (retS (pureM (.bl false)))
    (skipS)))
    (retS (andV (blM (opB neB (op2 ixD (nameM 1) (pureM (.int 1))) (op2 ixD (nameM 1) (pureM (.int 2))))) (blM (opB eqB (callM F__law_image (consM (nameM 0) (consM (op2 ixD (nameM 1) (pureM (.int 1))) (pureM [])))) (callM F__law_image (consM (nameM 0) (consM (op2 ixD (nameM 1) (pureM (.int 2))) (pureM [])))))))))
def F__law_is_two : List D → Hand → RE D := fnD 4 B__law_is_two
theorem ok__law_is_two (T : Txt K mg) : FnOk P w K mg base (L2.CX P w) 2 T.a__law_is_two T.d__law_is_two ["code", "thing"] (spD K mg 2 F__law_is_two) :=
  fn_ok T.F__law_is_two sc__law_is_two fun cdv A outer s H E hr tk po =>
    ss_cons (s_if (t_w (w_or (t_not (t_val (e_isi (T := "tuple") rfl T.n_isinstance (V_E (e_name 1)) rfl T.n_tuple (by decide +kernel)))) (w_or (t_cmp (op_neA hr.units) ne_ok (V_E (e_cb call_len len_ok rfl T.n_len (by decide +kernel) (v_cons (V_E (e_name 1)) (v_nil)))) (V_E (e_int)) (nomark _)) (w_or1 (t_cmp (op_neA hr.units) ne_ok (V_E (e_ix ix_seq ix_ok (V_E (e_name 1)) (V_E (e_int)) (fun _ _ => rfl))) (V_E (e_str str_4)) (nomark _))))))
    (ss_one (s_ret (e_bl)))
    (ss_nil))
    (ss_cons (s_for po rfl (i_seq (e_slice (e_name 1) (o_some (e_int)) (o_none))) (pg_name (i := 2) sc__law_is_two.nd rfl (by first | exact .inl rfl | exact .inr rfl)) (tr_name 2)
    (ss_one (s_if (t_w (w_or (t_not (t_val (e_isi (T := "str") rfl T.n_isinstance (V_E (e_name 2)) rfl T.n_str (by decide +kernel)))) (w_or (t_cmp op_gt gt_ok (V_E (e_cb call_len len_ok rfl T.n_len (by decide +kernel) (v_cons (V_E (e_name 2)) (v_nil)))) (V_E (e_int)) (nomark _)) (w_or1 (t_not (t_val (e_cb (cr_all rfl) all_ok rfl T.n_all (by decide +kernel) (v_cons (V_L (e_lc (own := [("letter", 3)]) rfl sc__law_is_two.nd (i_seq (e_name 2)) (blkOk_by (N := N__law_is_two) (sc := defScope s__law_is_two) (by decide +kernel)) (fun _ _ _ _ _ => pg_name (i := 3) sc__law_is_two.nd rfl (by first | exact .inl rfl | exact .inr rfl)) (tr_name 3) (fun _ _ _ _ _ => ts_nil) (fun _ _ _ _ _ => e_cmp op_inA in_ok (V_E (e_name 3)) (V_E (e_str str_3)) rfl) (by decide))) (v_nil)))))))))
    (ss_one (s_ret (e_bl)))
    (ss_nil))))
    (ss_one (s_ret (e_and (e_cmp (op_neA hr.units) ne_ok (V_E (e_ix ix_seq ix_ok (V_E (e_name 1)) (V_E (e_int)) (fun _ _ => rfl))) (V_E (e_ix ix_seq ix_ok (V_E (e_name 1)) (V_E (e_int)) (fun _ _ => rfl))) (nomark _)) (e_one (e_cmp (op_eqA hr.units) eq_ok (V_E (e_call (ok__law_image T) (hr.mono (by decide)) rfl T.g__law_image T.F__law_image.kp (bi__law_image T) tk (a_cons (e_name 0) (a_cons (e_ix ix_seq ix_ok (V_E (e_name 1)) (V_E (e_int)) (fun _ _ => rfl)) (a_nil))) (len_cons (len_cons (len_nil))))) (V_E (e_call (ok__law_image T) (hr.mono (by decide)) rfl T.g__law_image T.F__law_image.kp (bi__law_image T) tk (a_cons (e_name 0) (a_cons (e_ix ix_seq ix_ok (V_E (e_name 1)) (V_E (e_int)) (fun _ _ => rfl)) (a_nil))) (len_cons (len_cons (len_nil))))) (nomark _)))))))
/-! ### check_code -/
def B_check_code : SM :=
    ifS (notT (valT (callM F_is_code (consM (nameM 0) (pureM [])))))
    (raiseS "NoCode")
    (skipS)
def F_check_code : List D → Hand → RE D := fnD 1 B_check_code
theorem ok_check_code (T : Txt K mg) : FnOk P w K mg base (L2.CX P w) 3 T.a_check_code T.d_check_code ["code"] (spD K mg 1 F_check_code) :=
  fn_ok T.F_check_code sc_check_code fun cdv A outer s H E hr tk po =>
    ss_one (s_if (t_not (t_val (e_call (ok_is_code T) (hr.mono (by decide)) rfl T.g_is_code T.F_is_code.kp (bi_is_code T) tk (a_cons (e_name 0) (a_nil)) (len_cons (len_nil)))))
    (ss_one (s_raise rfl tk T.x_NoCode rfl))
    (ss_nil))
/-! ### _law_is -/
def B__law_is_0 : SM :=
    stuckS
def F__law_is_0 : List D → Hand → RE D := fnD 4 B__law_is_0
theorem ok__law_is_0 (T : Txt K mg) : FnOk P w K mg base (L2.CX P w) 1 T.a__law_is T.d__law_is ["given", "due"] (spD K mg 2 F__law_is_0) :=
  fn_ok T.F__law_is sc__law_is fun cdv A outer s H E hr tk po =>
    ss_stuck
def B__law_is_1 : SM :=
    seqS (ifS (orT (opB isD (nameM 1) (pureM .non)) (opB isD (nameM 0) (pureM .non)))
    (retS (andV (blM (opB isD (nameM 1) (pureM .non))) (blM (opB isD (nameM 0) (pureM .non)))))
    (skipS))
    (seqS (ifS (orT (valT (mapM1 (nameM 1) (isiD "tuple"))) (valT (mapM1 (nameM 1) (isiD "list"))))
    (seqS (ifS (opB neB (mapM1 (nameM 0) (isiD "tuple")) (mapM1 (nameM 1) (isiD "tuple")))
    (retS (pureM (.bl false)))
    (skipS))
    (seqS (ifS (opB neB (mapM1 (nameM 0) (isiD "list")) (mapM1 (nameM 1) (isiD "list")))
    (retS (pureM (.bl false)))
    (skipS))
    (retS (andV (blM (opB eqB (mapM1 (consM (nameM 0) (pureM [])) lenD) (mapM1 (consM (nameM 1) (pureM [])) lenD))) (mapM1 (consM (compM (mapM1 (consM (nameM 0) (consM (nameM 1) (pureM []))) zipS) (tgT 2 (tgCons (tgN 2) (tgCons (tgN 3) (tgNil)))) [2, 3] (pureM true) (callM F__law_is_0 (consM (nameM 2) (consM (nameM 3) (pureM []))))) (pureM [])) allD)))))
    (skipS))
    (seqS (ifS (orT (opB neB (mapM1 (nameM 0) (isiD "bool")) (mapM1 (nameM 1) (isiD "bool"))) (opB neB (mapM1 (nameM 0) (isiD "int")) (mapM1 (nameM 1) (isiD "int"))))
    (retS (pureM (.bl false)))
    (skipS))
    (retS (andV (blM (opB eqB (mapM1 (nameM 0) (isiD "str")) (mapM1 (nameM 1) (isiD "str")))) (blM (opB eqB (nameM 0) (nameM 1)))))))
def F__law_is_1 : List D → Hand → RE D := fnD 4 B__law_is_1
theorem ok__law_is_1 (T : Txt K mg) : FnOk P w K mg base (L2.CX P w) 2 T.a__law_is T.d__law_is ["given", "due"] (spD K mg 2 F__law_is_1) :=
  fn_ok T.F__law_is sc__law_is fun cdv A outer s H E hr tk po =>
    ss_cons (s_if (t_w (w_or (t_cmp op_is is_ok (V_E (e_name 1)) (V_E (e_non)) (nomark _)) (w_or1 (t_cmp op_is is_ok (V_E (e_name 0)) (V_E (e_non)) (nomark _)))))
    (ss_one (s_ret (e_and (e_cmp op_is is_ok (V_E (e_name 1)) (V_E (e_non)) (nomark _)) (e_one (e_cmp op_is is_ok (V_E (e_name 0)) (V_E (e_non)) (nomark _))))))
    (ss_nil))
    (ss_cons (s_if (t_w (w_or (t_val (e_isi (T := "tuple") rfl T.n_isinstance (V_E (e_name 1)) rfl T.n_tuple (by decide +kernel))) (w_or1 (t_val (e_isi (T := "list") rfl T.n_isinstance (V_E (e_name 1)) rfl T.n_list (by decide +kernel))))))
    (ss_cons (s_if (t_cmp (op_neA hr.units) ne_ok (V_E (e_isi (T := "tuple") rfl T.n_isinstance (V_E (e_name 0)) rfl T.n_tuple (by decide +kernel))) (V_E (e_isi (T := "tuple") rfl T.n_isinstance (V_E (e_name 1)) rfl T.n_tuple (by decide +kernel))) (nomark _))
    (ss_one (s_ret (e_bl)))
    (ss_nil))
    (ss_cons (s_if (t_cmp (op_neA hr.units) ne_ok (V_E (e_isi (T := "list") rfl T.n_isinstance (V_E (e_name 0)) rfl T.n_list (by decide +kernel))) (V_E (e_isi (T := "list") rfl T.n_isinstance (V_E (e_name 1)) rfl T.n_list (by decide +kernel))) (nomark _))
    (ss_one (s_ret (e_bl)))
    (ss_nil))
    (ss_one (s_ret (e_and (e_cmp (op_eqA hr.units) eq_ok (V_E (e_cb call_len len_ok rfl T.n_len (by decide +kernel) (v_cons (V_E (e_name 0)) (v_nil)))) (V_E (e_cb call_len len_ok rfl T.n_len (by decide +kernel) (v_cons (V_E (e_name 1)) (v_nil)))) (nomark _)) (e_one (e_cb (cr_all rfl) all_ok rfl T.n_all (by decide +kernel) (v_cons (V_L (e_lc (own := [("mine", 2), ("its", 3)]) rfl sc__law_is.nd (i_zipS rfl T.n_zip (a_cons (e_name 0) (a_cons (e_name 1) (a_nil)))) (blkOk_by (N := N__law_is) (sc := defScope s__law_is) (by decide +kernel)) (fun _ _ _ _ _ => pg_tup (by rfl) (pgs_cons (pg_name (i := 2) sc__law_is.nd rfl (by first | exact .inl rfl | exact .inr rfl)) (pgs_cons (pg_name (i := 3) sc__law_is.nd rfl (by first | exact .inl rfl | exact .inr rfl)) (pgs_nil)))) (tr_tup (n := 2) (tr_cons (tr_name 2) (tr_cons (tr_name 3) (tr_nil)))) (fun _ _ _ _ _ => ts_nil) (fun _ _ _ _ _ => e_call (ok__law_is_0 T) (hr.mono (by decide)) rfl T.g__law_is T.F__law_is.kp (bi__law_is T) L2.takes0 (a_cons (e_name 2) (a_cons (e_name 3) (a_nil))) (len_cons (len_cons (len_nil)))) (by decide))) (v_nil)))))))))
    (ss_nil))
    (ss_cons (s_if (t_w (w_or (t_cmp (op_neA hr.units) ne_ok (V_E (e_isi (T := "bool") rfl T.n_isinstance (V_E (e_name 0)) rfl T.n_bool (by decide +kernel))) (V_E (e_isi (T := "bool") rfl T.n_isinstance (V_E (e_name 1)) rfl T.n_bool (by decide +kernel))) (nomark _)) (w_or1 (t_cmp (op_neA hr.units) ne_ok (V_E (e_isi (T := "int") rfl T.n_isinstance (V_E (e_name 0)) rfl T.n_int (by decide +kernel))) (V_E (e_isi (T := "int") rfl T.n_isinstance (V_E (e_name 1)) rfl T.n_int (by decide +kernel))) (nomark _)))))
    (ss_one (s_ret (e_bl)))
    (ss_nil))
    (ss_one (s_ret (e_and (e_cmp (op_eqA hr.units) eq_ok (V_E (e_isi (T := "str") rfl T.n_isinstance (V_E (e_name 0)) rfl T.n_str (by decide +kernel))) (V_E (e_isi (T := "str") rfl T.n_isinstance (V_E (e_name 1)) rfl T.n_str (by decide +kernel))) (nomark _)) (e_one (e_cmp (op_eqA hr.units) eq_ok (V_E (e_name 0)) (V_E (e_name 1)) (nomark _))))))))
def B__law_is : SM :=
    seqS (ifS (orT (opB isD (nameM 1) (pureM .non)) (opB isD (nameM 0) (pureM .non)))
    (retS (andV (blM (opB isD (nameM 1) (pureM .non))) (blM (opB isD (nameM 0) (pureM .non)))))
    (skipS))
    (seqS (ifS (orT (valT (mapM1 (nameM 1) (isiD "tuple"))) (valT (mapM1 (nameM 1) (isiD "list"))))
    (seqS (ifS (opB neB (mapM1 (nameM 0) (isiD "tuple")) (mapM1 (nameM 1) (isiD "tuple")))
    (retS (pureM (.bl false)))
    (skipS))
    (seqS (ifS (opB neB (mapM1 (nameM 0) (isiD "list")) (mapM1 (nameM 1) (isiD "list")))
    (retS (pureM (.bl false)))
    (skipS))
    (retS (andV (blM (opB eqB (mapM1 (consM (nameM 0) (pureM [])) lenD) (mapM1 (consM (nameM 1) (pureM [])) lenD))) (mapM1 (consM (compM (mapM1 (consM (nameM 0) (consM (nameM 1) (pureM []))) zipS) (tgT 2 (tgCons (tgN 2) (tgCons (tgN 3) (tgNil)))) [2, 3] (pureM true) (callM F__law_is_1 (consM (nameM 2) (consM (nameM 3) (pureM []))))) (pureM [])) allD)))))
    (skipS))
    (seqS (ifS (orT (opB neB (mapM1 (nameM 0) (isiD "bool")) (mapM1 (nameM 1) (isiD "bool"))) (opB neB (mapM1 (nameM 0) (isiD "int")) (mapM1 (nameM 1) (isiD "int"))))
    (retS (pureM (.bl false)))
    (skipS))
    (retS (andV (blM (opB eqB (mapM1 (nameM 0) (isiD "str")) (mapM1 (nameM 1) (isiD "str")))) (blM (opB eqB (nameM 0) (nameM 1)))))))
def F__law_is : List D → Hand → RE D := fnD 4 B__law_is
theorem ok__law_is (T : Txt K mg) : FnOk P w K mg base (L2.CX P w) 3 T.a__law_is T.d__law_is ["given", "due"] (spD K mg 2 F__law_is) :=
  fn_ok T.F__law_is sc__law_is fun cdv A outer s H E hr tk po =>
    ss_cons (s_if (t_w (w_or (t_cmp op_is is_ok (V_E (e_name 1)) (V_E (e_non)) (nomark _)) (w_or1 (t_cmp op_is is_ok (V_E (e_name 0)) (V_E (e_non)) (nomark _)))))
    (ss_one (s_ret (e_and (e_cmp op_is is_ok (V_E (e_name 1)) (V_E (e_non)) (nomark _)) (e_one (e_cmp op_is is_ok (V_E (e_name 0)) (V_E (e_non)) (nomark _))))))
    (ss_nil))
    (ss_cons (s_if (t_w (w_or (t_val (e_isi (T := "tuple") rfl T.n_isinstance (V_E (e_name 1)) rfl T.n_tuple (by decide +kernel))) (w_or1 (t_val (e_isi (T := "list") rfl T.n_isinstance (V_E (e_name 1)) rfl T.n_list (by decide +kernel))))))
    (ss_cons (s_if (t_cmp (op_neA hr.units) ne_ok (V_E (e_isi (T := "tuple") rfl T.n_isinstance (V_E (e_name 0)) rfl T.n_tuple (by decide +kernel))) (V_E (e_isi (T := "tuple") rfl T.n_isinstance (V_E (e_name 1)) rfl T.n_tuple (by decide +kernel))) (nomark _))
    (ss_one (s_ret (e_bl)))
    (ss_nil))
    (ss_cons (s_if (t_cmp (op_neA hr.units) ne_ok (V_E (e_isi (T := "list") rfl T.n_isinstance (V_E (e_name 0)) rfl T.n_list (by decide +kernel))) (V_E (e_isi (T := "list") rfl T.n_isinstance (V_E (e_name 1)) rfl T.n_list (by decide +kernel))) (nomark _))
    (ss_one (s_ret (e_bl)))
    (ss_nil))
    (ss_one (s_ret (e_and (e_cmp (op_eqA hr.units) eq_ok (V_E (e_cb call_len len_ok rfl T.n_len (by decide +kernel) (v_cons (V_E (e_name 0)) (v_nil)))) (V_E (e_cb call_len len_ok rfl T.n_len (by decide +kernel) (v_cons (V_E (e_name 1)) (v_nil)))) (nomark _)) (e_one (e_cb (cr_all rfl) all_ok rfl T.n_all (by decide +kernel) (v_cons (V_L (e_lc (own := [("mine", 2), ("its", 3)]) rfl sc__law_is.nd (i_zipS rfl T.n_zip (a_cons (e_name 0) (a_cons (e_name 1) (a_nil)))) (blkOk_by (N := N__law_is) (sc := defScope s__law_is) (by decide +kernel)) (fun _ _ _ _ _ => pg_tup (by rfl) (pgs_cons (pg_name (i := 2) sc__law_is.nd rfl (by first | exact .inl rfl | exact .inr rfl)) (pgs_cons (pg_name (i := 3) sc__law_is.nd rfl (by first | exact .inl rfl | exact .inr rfl)) (pgs_nil)))) (tr_tup (n := 2) (tr_cons (tr_name 2) (tr_cons (tr_name 3) (tr_nil)))) (fun _ _ _ _ _ => ts_nil) (fun _ _ _ _ _ => e_call (ok__law_is_1 T) (hr.mono (by decide)) rfl T.g__law_is T.F__law_is.kp (bi__law_is T) L2.takes0 (a_cons (e_name 2) (a_cons (e_name 3) (a_nil))) (len_cons (len_cons (len_nil)))) (by decide))) (v_nil)))))))))
    (ss_nil))
    (ss_cons (s_if (t_w (w_or (t_cmp (op_neA hr.units) ne_ok (V_E (e_isi (T := "bool") rfl T.n_isinstance (V_E (e_name 0)) rfl T.n_bool (by decide +kernel))) (V_E (e_isi (T := "bool") rfl T.n_isinstance (V_E (e_name 1)) rfl T.n_bool (by decide +kernel))) (nomark _)) (w_or1 (t_cmp (op_neA hr.units) ne_ok (V_E (e_isi (T := "int") rfl T.n_isinstance (V_E (e_name 0)) rfl T.n_int (by decide +kernel))) (V_E (e_isi (T := "int") rfl T.n_isinstance (V_E (e_name 1)) rfl T.n_int (by decide +kernel))) (nomark _)))))
    (ss_one (s_ret (e_bl)))
    (ss_nil))
    (ss_one (s_ret (e_and (e_cmp (op_eqA hr.units) eq_ok (V_E (e_isi (T := "str") rfl T.n_isinstance (V_E (e_name 0)) rfl T.n_str (by decide +kernel))) (V_E (e_isi (T := "str") rfl T.n_isinstance (V_E (e_name 1)) rfl T.n_str (by decide +kernel))) (nomark _)) (e_one (e_cmp (op_eqA hr.units) eq_ok (V_E (e_name 0)) (V_E (e_name 1)) (nomark _))))))))
/-! ### _law_code -/
def B__law_code : SM :=
    seqS (setLS 1 (lstM (pureM [])))
    (seqS (forS (mapM1 (consM (pureM (.int 2)) (pureM [])) rng1) (tgN 2)
    (appS' 1 (msM (pureM (.str [])) (consM (compM (mapM1 (consM (callM F__law_draw (consM (nameM 0) (consM (pureM (.int 4)) (pureM [])))) (pureM [])) rng1) (tgN 5) [5] (pureM true) (callM F__law_any (consM (nameM 0) (consM (lstM (consM (pureM (.str [97])) (consM (pureM (.str [98])) (pureM [])))) (pureM []))))) (pureM [])) joinD)))
    (seqS (setS 3 (callM F__law_any (consM (nameM 0) (consM (lstM (consM (pureM (.str [97])) (consM (pureM (.str [97, 98])) (consM (pureM (.str [98])) (pureM []))))) (pureM [])))))
    (seqS (setS 4 (lstM (consM (mapM1 (consM (viewM 1) (pureM [])) tupleD) (consM (mapM1 (consM (viewM 1) (pureM [])) tupleD) (consM (tupM (consM (nameM 3) (consM (op2 addD (nameM 3) (nameM 3)) (pureM [])))) (consM (tupM (consM (op2 ixD (viewM 1) (pureM (.int 0))) (consM (op2 ixD (viewM 1) (pureM (.int 0))) (pureM [])))) (consM (tupM (consM (pureM (.str [])) (consM (op2 ixD (viewM 1) (pureM (.int 1))) (pureM [])))) (pureM []))))))))
    (retS (callM F__law_any (consM (nameM 0) (consM (nameM 4) (pureM []))))))))
def F__law_code : List D → Hand → RE D := fnD 6 B__law_code
theorem ok__law_code (T : Txt K mg) : FnOk P w K mg base (L2.CX P w) 3 T.a__law_code T.d__law_code ["hand"] (spD K mg 1 F__law_code) :=
  fn_ok T.F__law_code sc__law_code fun cdv A outer s H E hr tk po =>
    ss_cons (s_setL (i := 1) sc__law_code.nd rfl (by first | exact .inl rfl | exact .inr rfl) (e_lst (a_nil)))
    (ss_cons (s_for po rfl (i_range1 rfl T.n_range (a_cons (e_int) (a_nil))) (pg_name (i := 2) sc__law_code.nd rfl (by first | exact .inl rfl | exact .inr rfl)) (tr_name 2)
    (ss_one (s_append (i := 1) rfl (by first | exact .inl rfl | exact .inr (.inl rfl) | exact .inr (.inr rfl)) (e_join (e_str str_0) (v_cons (V_L (e_lc (own := [("part", 5)]) rfl sc__law_code.nd (i_range1 rfl T.n_range (a_cons (e_call (ok__law_draw T) (hr.mono (by decide)) rfl T.g__law_draw T.F__law_draw.kp (bi__law_draw T) tk (a_cons (e_name 0) (a_cons (e_int) (a_nil))) (len_cons (len_cons (len_nil)))) (a_nil))) (blkOk_by (N := N__law_code) (sc := defScope s__law_code) (by decide +kernel)) (fun _ _ _ _ _ => pg_name (i := 5) sc__law_code.nd rfl (by first | exact .inl rfl | exact .inr rfl)) (tr_name 5) (fun _ _ _ _ _ => ts_nil) (fun _ _ _ _ _ => e_call (ok__law_any T) (hr.mono (by decide)) rfl T.g__law_any T.F__law_any.kp (bi__law_any T) L2.takes0 (a_cons (e_name 0) (a_cons (E_L (e_lst (a_cons (e_str str_2) (a_cons (e_str str_1) (a_nil))))) (a_nil))) (len_cons (len_cons (len_nil)))) (by decide))) (v_nil))))))
    (ss_cons (s_set (i := 3) sc__law_code.nd rfl (by first | exact .inl rfl | exact .inr rfl) (e_call (ok__law_any T) (hr.mono (by decide)) rfl T.g__law_any T.F__law_any.kp (bi__law_any T) tk (a_cons (e_name 0) (a_cons (E_L (e_lst (a_cons (e_str str_2) (a_cons (e_str str_3) (a_cons (e_str str_1) (a_nil)))))) (a_nil))) (len_cons (len_cons (len_nil)))))
    (ss_cons (s_set (i := 4) sc__law_code.nd rfl (by first | exact .inl rfl | exact .inr rfl) (E_L (e_lst (a_cons (e_cbT call_tuple_of tuple_ok rfl T.n_tuple (by decide +kernel) (v_cons (e_view 1) (v_nil))) (a_cons (e_cbT call_tuple_of tuple_ok rfl T.n_tuple (by decide +kernel) (v_cons (e_view 1) (v_nil))) (a_cons (e_tup (a_cons (e_name 3) (a_cons (e_bin op_addD add_ok (V_E (e_name 3)) (V_E (e_name 3))) (a_nil)))) (a_cons (e_tup (a_cons (e_ix ix_seq ix_ok (e_view 1) (V_E (e_int)) (fun _ _ => rfl)) (a_cons (e_ix ix_seq ix_ok (e_view 1) (V_E (e_int)) (fun _ _ => rfl)) (a_nil)))) (a_cons (e_tup (a_cons (e_str str_0) (a_cons (e_ix ix_seq ix_ok (e_view 1) (V_E (e_int)) (fun _ _ => rfl)) (a_nil)))) (a_nil)))))))))
    (ss_one (s_ret (e_call (ok__law_any T) (hr.mono (by decide)) rfl T.g__law_any T.F__law_any.kp (bi__law_any T) tk (a_cons (e_name 0) (a_cons (e_name 4) (a_nil))) (len_cons (len_cons (len_nil)))))))))
/-! ### image -/
def B_image : SM :=
    seqS (dropS (callM F_check_code (consM (nameM 0) (pureM []))))
    (seqS (dropS (callM F_check_word (consM (nameM 1) (consM (pureM (.int 12)) (pureM [])))))
    (retS (callM F_raw_image (consM (nameM 0) (consM (nameM 1) (pureM []))))))
def F_image : List D → Hand → RE D := fnD 2 B_image
theorem ok_image (T : Txt K mg) : FnOk P w K mg base (L2.CX P w) 4 T.a_image T.d_image ["code", "word"] (spD K mg 2 F_image) :=
  fn_ok T.F_image sc_image fun cdv A outer s H E hr tk po =>
    ss_cons (s_expr (e_call (ok_check_code T) (hr.mono (by decide)) rfl T.g_check_code T.F_check_code.kp (bi_check_code T) tk (a_cons (e_name 0) (a_nil)) (len_cons (len_nil))))
    (ss_cons (s_expr (e_call (ok_check_word T) (hr.mono (by decide)) rfl T.g_check_word T.F_check_word.kp (bi_check_word T) tk (a_cons (e_name 1) (a_cons (e_const rfl (T.c_MOST_WORD)) (a_nil))) (len_cons (len_cons (len_nil)))))
    (ss_one (s_ret (e_call (ok_raw_image T) (hr.mono (by decide)) rfl T.g_raw_image T.F_raw_image.kp (bi_raw_image T) tk (a_cons (e_name 0) (a_cons (e_name 1) (a_nil))) (len_cons (len_cons (len_nil)))))))
/-! ### many_back -/
def B_many_back : SM :=
    seqS (dropS (callM F_check_code (consM (nameM 0) (pureM []))))
    (seqS (dropS (callM F_check_word (consM (nameM 1) (consM (pureM (.int 40)) (pureM [])))))
    (seqS (setS 2 (op2 ixD (callM F_counts_back (consM (nameM 0) (consM (nameM 1) (pureM [])))) (negM (pureM (.int 1)))))
    (retS (ifM (andT (opB gtB (nameM 2) (pureM (.int 0))) (opB inB (pureM (.str [])) (nameM 0))) (pureM .non) (nameM 2)))))
def F_many_back : List D → Hand → RE D := fnD 3 B_many_back
theorem ok_many_back (T : Txt K mg) : FnOk P w K mg base (L2.CX P w) 4 T.a_many_back T.d_many_back ["code", "word"] (spD K mg 2 F_many_back) :=
  fn_ok T.F_many_back sc_many_back fun cdv A outer s H E hr tk po =>
    ss_cons (s_expr (e_call (ok_check_code T) (hr.mono (by decide)) rfl T.g_check_code T.F_check_code.kp (bi_check_code T) tk (a_cons (e_name 0) (a_nil)) (len_cons (len_nil))))
    (ss_cons (s_expr (e_call (ok_check_word T) (hr.mono (by decide)) rfl T.g_check_word T.F_check_word.kp (bi_check_word T) tk (a_cons (e_name 1) (a_cons (e_const rfl (T.c_MOST_READ)) (a_nil))) (len_cons (len_cons (len_nil)))))
    (ss_cons (s_set (i := 2) sc_many_back.nd rfl (by first | exact .inl rfl | exact .inr rfl) (e_ix ix_seq ix_ok (V_E (e_call (ok_counts_back T) (hr.mono (by decide)) rfl T.g_counts_back T.F_counts_back.kp (bi_counts_back T) tk (a_cons (e_name 0) (a_cons (e_name 1) (a_nil))) (len_cons (len_cons (len_nil))))) (V_E (e_neg (e_int))) (fun _ _ => rfl)))
    (ss_one (s_ret (e_if (t_w (w_and (t_cmp op_gt gt_ok (V_E (e_name 2)) (V_E (e_int)) (nomark _)) (w_and1 (t_cmp op_inA in_ok (V_E (e_str str_0)) (V_E (e_name 0)) rfl)))) (e_non) (e_name 2))))))
/-! ### read_back -/
def B_read_back : SM :=
    seqS (dropS (callM F_check_code (consM (nameM 0) (pureM []))))
    (seqS (dropS (callM F_check_word (consM (nameM 1) (consM (pureM (.int 40)) (pureM [])))))
    (seqS (setLS 2 (op2 catD (lstM (consM (pureM (.str [])) (pureM []))) (op2 repD (lstM (consM (pureM .non) (pureM []))) (mapM1 (consM (nameM 1) (pureM [])) lenD))))
    (seqS (forS (mapM1 (consM (pureM (.int 1)) (consM (op2 addD (mapM1 (consM (nameM 1) (pureM [])) lenD) (pureM (.int 1))) (pureM []))) rng2) (tgN 3)
    (seqS (setLS 4 (lstM (pureM [])))
    (seqS (forS (mapM1 (consM (pureM (.str [97, 98])) (consM (nameM 0) (pureM []))) zipS) (tgT 2 (tgCons (tgN 5) (tgCons (tgN 6) (tgNil))))
    (seqS (setS 7 (op2 subD (nameM 3) (mapM1 (consM (nameM 6) (pureM [])) lenD)))
    (ifS (andT (opB neB (nameM 6) (pureM (.str []))) (andT (opB geB (nameM 7) (pureM (.int 0))) (andT (opB eqB (sliceM (nameM 1) (partM (some (nameM 7))) (partM (some (nameM 3)))) (nameM 6)) (opB isntD (op2 ixD (viewM 2) (nameM 7)) (pureM .non)))))
    (appS' 4 (tupM (consM (op2 addD (mapM1 (consM (op2 ixD (viewM 2) (nameM 7)) (pureM [])) lenD) (pureM (.int 1))) (consM (op2 addD (op2 ixD (viewM 2) (nameM 7)) (nameM 5)) (pureM [])))))
    (skipS))))
    (stS 2 (nameM 3) (ifM (opB gtB (mapM1 (consM (viewM 4) (pureM [])) lenD) (pureM (.int 0))) (op2 ixD (mapM1 (consM (viewM 4) (pureM [])) minPD) (pureM (.int 1))) (pureM .non))))))
    (retS (op2 ixD (viewM 2) (negM (pureM (.int 1))))))))
def F_read_back : List D → Hand → RE D := fnD 8 B_read_back
theorem ok_read_back (T : Txt K mg) : FnOk P w K mg base (L2.CX P w) 4 T.a_read_back T.d_read_back ["code", "word"] (spD K mg 2 F_read_back) :=
  fn_ok T.F_read_back sc_read_back fun cdv A outer s H E hr tk po =>
    ss_cons (s_expr (e_call (ok_check_code T) (hr.mono (by decide)) rfl T.g_check_code T.F_check_code.kp (bi_check_code T) tk (a_cons (e_name 0) (a_nil)) (len_cons (len_nil))))
    (ss_cons (s_expr (e_call (ok_check_word T) (hr.mono (by decide)) rfl T.g_check_word T.F_check_word.kp (bi_check_word T) tk (a_cons (e_name 1) (a_cons (e_const rfl (T.c_MOST_READ)) (a_nil))) (len_cons (len_cons (len_nil)))))
    (ss_cons (s_setL (i := 2) sc_read_back.nd rfl (by first | exact .inl rfl | exact .inr rfl) (e_binL op_cat cat_ok (V_L (e_lst (a_cons (e_str str_0) (a_nil)))) (V_L (e_binL op_rep rep_ok (V_L (e_lst (a_cons (e_non) (a_nil)))) (V_E (e_cb call_len len_ok rfl T.n_len (by decide +kernel) (v_cons (V_E (e_name 1)) (v_nil))))))))
    (ss_cons (s_for po rfl (i_range2 rfl T.n_range (a_cons (e_int) (a_cons (e_bin op_addD add_ok (V_E (e_cb call_len len_ok rfl T.n_len (by decide +kernel) (v_cons (V_E (e_name 1)) (v_nil)))) (V_E (e_int))) (a_nil)))) (pg_name (i := 3) sc_read_back.nd rfl (by first | exact .inl rfl | exact .inr rfl)) (tr_name 3)
    (ss_cons (s_setL (i := 4) sc_read_back.nd rfl (by first | exact .inl rfl | exact .inr rfl) (e_lst (a_nil)))
    (ss_cons (s_for po rfl (i_zipS rfl T.n_zip (a_cons (e_const rfl (T.c_LETTERS)) (a_cons (e_name 0) (a_nil)))) (pg_tup (by rfl) (pgs_cons (pg_name (i := 5) sc_read_back.nd rfl (by first | exact .inl rfl | exact .inr rfl)) (pgs_cons (pg_name (i := 6) sc_read_back.nd rfl (by first | exact .inl rfl | exact .inr rfl)) (pgs_nil)))) (tr_tup (n := 2) (tr_cons (tr_name 5) (tr_cons (tr_name 6) (tr_nil))))
    (ss_cons (s_set (i := 7) sc_read_back.nd rfl (by first | exact .inl rfl | exact .inr rfl) (e_bin op_sub sub_ok (V_E (e_name 3)) (V_E (e_cb call_len len_ok rfl T.n_len (by decide +kernel) (v_cons (V_E (e_name 6)) (v_nil))))))
    (ss_one (s_if (t_w (w_and (t_cmp (op_neA hr.units) ne_ok (V_E (e_name 6)) (V_E (e_str str_0)) (nomark _)) (w_and (t_cmp op_ge ge_ok (V_E (e_name 7)) (V_E (e_int)) (nomark _)) (w_and (t_cmp (op_eqA hr.units) eq_ok (V_E (e_slice (e_name 1) (o_some (e_name 7)) (o_some (e_name 3)))) (V_E (e_name 6)) (nomark _)) (w_and1 (t_cmp op_isnt isnt_ok (V_E (e_ix ix_seq ix_ok (e_view 2) (V_E (e_name 7)) (fun _ _ => rfl))) (V_E (e_non)) (nomark _)))))))
    (ss_one (s_append (i := 4) rfl (by first | exact .inl rfl | exact .inr (.inl rfl) | exact .inr (.inr rfl)) (e_tup (a_cons (e_bin op_addD add_ok (V_E (e_cb call_len len_ok rfl T.n_len (by decide +kernel) (v_cons (V_E (e_ix ix_seq ix_ok (e_view 2) (V_E (e_name 7)) (fun _ _ => rfl))) (v_nil)))) (V_E (e_int))) (a_cons (e_bin op_addD add_ok (V_E (e_ix ix_seq ix_ok (e_view 2) (V_E (e_name 7)) (fun _ _ => rfl))) (V_E (e_name 5))) (a_nil))))))
    (ss_nil)))))
    (ss_one (s_store (i := 2) rfl (by first | exact .inl rfl | exact .inr (.inl rfl) | exact .inr (.inr rfl)) (e_if (t_cmp op_gt gt_ok (V_E (e_cb call_len len_ok rfl T.n_len (by decide +kernel) (v_cons (e_view 4) (v_nil)))) (V_E (e_int)) (nomark _)) (e_ix ix_seq ix_ok (V_E (e_cb (cr_minP rfl hr.units) minP_ok rfl T.n_min (by decide +kernel) (v_cons (e_view 4) (v_nil)))) (V_E (e_int)) (fun _ _ => rfl)) (e_non)) (e_name 3))))))
    (ss_one (s_ret (e_ix ix_seq ix_ok (e_view 2) (V_E (e_neg (e_int))) (fun _ _ => rfl)))))))
/-! ### sure_told -/
def B_sure_told : SM :=
    seqS (dropS (callM F_check_code (consM (nameM 0) (pureM []))))
    (retS (callM F_raw_sure (consM (nameM 0) (pureM []))))
def F_sure_told : List D → Hand → RE D := fnD 1 B_sure_told
theorem ok_sure_told (T : Txt K mg) : FnOk P w K mg base (L2.CX P w) 4 T.a_sure_told T.d_sure_told ["code"] (spD K mg 1 F_sure_told) :=
  fn_ok T.F_sure_told sc_sure_told fun cdv A outer s H E hr tk po =>
    ss_cons (s_expr (e_call (ok_check_code T) (hr.mono (by decide)) rfl T.g_check_code T.F_check_code.kp (bi_check_code T) tk (a_cons (e_name 0) (a_nil)) (len_cons (len_nil))))
    (ss_one (s_ret (e_call (ok_raw_sure T) (hr.mono (by decide)) rfl T.g_raw_sure T.F_raw_sure.kp (bi_raw_sure T) tk (a_cons (e_name 0) (a_nil)) (len_cons (len_nil)))))
/-! ### is_sure_told -/
def B_is_sure_told : SM :=
    seqS (dropS (callM F_check_code (consM (nameM 0) (pureM []))))
    (seqS (ifS (orT (notT (valT (mapM1 (nameM 1) (isiD "tuple")))) (notT (valT (mapM1 (consM (compM (seqItems (nameM 1)) (tgN 2) [2] (pureM true) (mapM1 (nameM 2) (isiD "str"))) (pureM [])) allD))))
    (retS (pureM (.bl false)))
    (skipS))
    (seqS (ifS (opB eqB (nameM 1) (tupM (consM (pureM (.str [115, 117, 114, 101])) (pureM []))))
    (retS (blM (opB eqB (callM F_raw_sure (consM (nameM 0) (pureM []))) (tupM (consM (pureM (.str [115, 117, 114, 101])) (pureM []))))))
    (skipS))
    (seqS (ifS (orT (opB neB (mapM1 (consM (nameM 1) (pureM [])) lenD) (pureM (.int 3))) (orT (opB neB (op2 ixD (nameM 1) (pureM (.int 0))) (pureM (.str [116, 119, 111]))) (notT (valT (mapM1 (consM (compM (seqItems (sliceM (nameM 1) (partM (some (pureM (.int 1)))) (partM none))) (tgN 2) [2] (pureM true) (callM F_is_letters (consM (nameM 2) (consM (pureM (.int 12)) (pureM []))))) (pureM [])) allD)))))
    (retS (pureM (.bl false)))
    (skipS))
    (retS (andV (blM (opB neB (op2 ixD (nameM 1) (pureM (.int 1))) (op2 ixD (nameM 1) (pureM (.int 2))))) (blM (opB eqB (callM F_raw_image (consM (nameM 0) (consM (op2 ixD (nameM 1) (pureM (.int 1))) (pureM [])))) (callM F_raw_image (consM (nameM 0) (consM (op2 ixD (nameM 1) (pureM (.int 2))) (pureM [])))))))))))
def F_is_sure_told : List D → Hand → RE D := fnD 3 B_is_sure_told
theorem ok_is_sure_told (T : Txt K mg) : FnOk P w K mg base (L2.CX P w) 4 T.a_is_sure_told T.d_is_sure_told ["code", "thing"] (spD K mg 2 F_is_sure_told) :=
  fn_ok T.F_is_sure_told sc_is_sure_told fun cdv A outer s H E hr tk po =>
    ss_cons (s_expr (e_call (ok_check_code T) (hr.mono (by decide)) rfl T.g_check_code T.F_check_code.kp (bi_check_code T) tk (a_cons (e_name 0) (a_nil)) (len_cons (len_nil))))
    (ss_cons (s_if (t_w (w_or (t_not (t_val (e_isi (T := "tuple") rfl T.n_isinstance (V_E (e_name 1)) rfl T.n_tuple (by decide +kernel)))) (w_or1 (t_not (t_val (e_cb (cr_all rfl) all_ok rfl T.n_all (by decide +kernel) (v_cons (V_L (e_lc (own := [("one", 2)]) rfl sc_is_sure_told.nd (i_seq (e_name 1)) (blkOk_by (N := N_is_sure_told) (sc := defScope s_is_sure_told) (by decide +kernel)) (fun _ _ _ _ _ => pg_name (i := 2) sc_is_sure_told.nd rfl (by first | exact .inl rfl | exact .inr rfl)) (tr_name 2) (fun _ _ _ _ _ => ts_nil) (fun _ _ _ _ _ => e_isi (T := "str") rfl T.n_isinstance (V_E (e_name 2)) rfl T.n_str (by decide +kernel)) (by decide))) (v_nil))))))))
    (ss_one (s_ret (e_bl)))
    (ss_nil))
    (ss_cons (s_if (t_cmp (op_eqA hr.units) eq_ok (V_E (e_name 1)) (V_E (e_tup (a_cons (e_const rfl (T.c_SURE)) (a_nil)))) (nomark _))
    (ss_one (s_ret (e_cmp (op_eqA hr.units) eq_ok (V_E (e_call (ok_raw_sure T) (hr.mono (by decide)) rfl T.g_raw_sure T.F_raw_sure.kp (bi_raw_sure T) tk (a_cons (e_name 0) (a_nil)) (len_cons (len_nil)))) (V_E (e_tup (a_cons (e_const rfl (T.c_SURE)) (a_nil)))) (nomark _))))
    (ss_nil))
    (ss_cons (s_if (t_w (w_or (t_cmp (op_neA hr.units) ne_ok (V_E (e_cb call_len len_ok rfl T.n_len (by decide +kernel) (v_cons (V_E (e_name 1)) (v_nil)))) (V_E (e_int)) (nomark _)) (w_or (t_cmp (op_neA hr.units) ne_ok (V_E (e_ix ix_seq ix_ok (V_E (e_name 1)) (V_E (e_int)) (fun _ _ => rfl))) (V_E (e_const rfl (T.c_TWO))) (nomark _)) (w_or1 (t_not (t_val (e_cb (cr_all rfl) all_ok rfl T.n_all (by decide +kernel) (v_cons (V_L (e_lc (own := [("one", 2)]) rfl sc_is_sure_told.nd (i_seq (e_slice (e_name 1) (o_some (e_int)) (o_none))) (blkOk_by (N := N_is_sure_told) (sc := defScope s_is_sure_told) (by decide +kernel)) (fun _ _ _ _ _ => pg_name (i := 2) sc_is_sure_told.nd rfl (by first | exact .inl rfl | exact .inr rfl)) (tr_name 2) (fun _ _ _ _ _ => ts_nil) (fun _ _ _ _ _ => e_call (ok_is_letters T) (hr.mono (by decide)) rfl T.g_is_letters T.F_is_letters.kp (bi_is_letters T) L2.takes0 (a_cons (e_name 2) (a_cons (e_const rfl (T.c_MOST_WORD)) (a_nil))) (len_cons (len_cons (len_nil)))) (by decide))) (v_nil)))))))))
    (ss_one (s_ret (e_bl)))
    (ss_nil))
    (ss_one (s_ret (e_and (e_cmp (op_neA hr.units) ne_ok (V_E (e_ix ix_seq ix_ok (V_E (e_name 1)) (V_E (e_int)) (fun _ _ => rfl))) (V_E (e_ix ix_seq ix_ok (V_E (e_name 1)) (V_E (e_int)) (fun _ _ => rfl))) (nomark _)) (e_one (e_cmp (op_eqA hr.units) eq_ok (V_E (e_call (ok_raw_image T) (hr.mono (by decide)) rfl T.g_raw_image T.F_raw_image.kp (bi_raw_image T) tk (a_cons (e_name 0) (a_cons (e_ix ix_seq ix_ok (V_E (e_name 1)) (V_E (e_int)) (fun _ _ => rfl)) (a_nil))) (len_cons (len_cons (len_nil))))) (V_E (e_call (ok_raw_image T) (hr.mono (by decide)) rfl T.g_raw_image T.F_raw_image.kp (bi_raw_image T) tk (a_cons (e_name 0) (a_cons (e_ix ix_seq ix_ok (V_E (e_name 1)) (V_E (e_int)) (fun _ _ => rfl)) (a_nil))) (len_cons (len_cons (len_nil))))) (nomark _)))))))))
/-! ### joined_codes -/
def B_joined_codes : SM :=
    seqS (dropS (callM F_check_code (consM (nameM 0) (pureM []))))
    (seqS (dropS (callM F_check_code (consM (nameM 1) (pureM []))))
    (seqS (setS 2 (tupM (consM (callM F_raw_image (consM (nameM 1) (consM (op2 ixD (nameM 0) (pureM (.int 0))) (pureM [])))) (consM (callM F_raw_image (consM (nameM 1) (consM (op2 ixD (nameM 0) (pureM (.int 1))) (pureM [])))) (pureM [])))))
    (seqS (ifS (notT (valT (callM F_is_code (consM (nameM 2) (pureM [])))))
    (raiseS "NoCode")
    (skipS))
    (retS (nameM 2)))))
def F_joined_codes : List D → Hand → RE D := fnD 3 B_joined_codes
theorem ok_joined_codes (T : Txt K mg) : FnOk P w K mg base (L2.CX P w) 4 T.a_joined_codes T.d_joined_codes ["one", "other"] (spD K mg 2 F_joined_codes) :=
  fn_ok T.F_joined_codes sc_joined_codes fun cdv A outer s H E hr tk po =>
    ss_cons (s_expr (e_call (ok_check_code T) (hr.mono (by decide)) rfl T.g_check_code T.F_check_code.kp (bi_check_code T) tk (a_cons (e_name 0) (a_nil)) (len_cons (len_nil))))
    (ss_cons (s_expr (e_call (ok_check_code T) (hr.mono (by decide)) rfl T.g_check_code T.F_check_code.kp (bi_check_code T) tk (a_cons (e_name 1) (a_nil)) (len_cons (len_nil))))
    (ss_cons (s_set (i := 2) sc_joined_codes.nd rfl (by first | exact .inl rfl | exact .inr rfl) (e_tup (a_cons (e_call (ok_raw_image T) (hr.mono (by decide)) rfl T.g_raw_image T.F_raw_image.kp (bi_raw_image T) tk (a_cons (e_name 1) (a_cons (e_ix ix_seq ix_ok (V_E (e_name 0)) (V_E (e_int)) (fun _ _ => rfl)) (a_nil))) (len_cons (len_cons (len_nil)))) (a_cons (e_call (ok_raw_image T) (hr.mono (by decide)) rfl T.g_raw_image T.F_raw_image.kp (bi_raw_image T) tk (a_cons (e_name 1) (a_cons (e_ix ix_seq ix_ok (V_E (e_name 0)) (V_E (e_int)) (fun _ _ => rfl)) (a_nil))) (len_cons (len_cons (len_nil)))) (a_nil)))))
    (ss_cons (s_if (t_not (t_val (e_call (ok_is_code T) (hr.mono (by decide)) rfl T.g_is_code T.F_is_code.kp (bi_is_code T) tk (a_cons (e_name 2) (a_nil)) (len_cons (len_nil)))))
    (ss_one (s_raise rfl tk T.x_NoCode rfl))
    (ss_nil))
    (ss_one (s_ret (e_name 2))))))
/-! ### begins_alike -/
def B_begins_alike : SM :=
    seqS (dropS (callM F_check_code (consM (nameM 0) (pureM []))))
    (seqS (setS 1 (pureM (.int 0)))
    (seqS (whileN (andT (opB ltB (nameM 1) (mapM1 (consM (mapM1 (consM (op2 ixD (nameM 0) (pureM (.int 0))) (pureM [])) lenD) (consM (mapM1 (consM (op2 ixD (nameM 0) (pureM (.int 1))) (pureM [])) lenD) (pureM []))) min2D)) (opB eqB (op2 ixD (op2 ixD (nameM 0) (pureM (.int 0))) (nameM 1)) (op2 ixD (op2 ixD (nameM 0) (pureM (.int 1))) (nameM 1))))
    (setS 1 (op2 addD (nameM 1) (pureM (.int 1)))) FUEL)
    (retS (sliceM (op2 ixD (nameM 0) (pureM (.int 0))) (partM none) (partM (some (nameM 1)))))))
def F_begins_alike : List D → Hand → RE D := fnD 2 B_begins_alike
theorem ok_begins_alike (T : Txt K mg) : FnOk P w K mg base (L2.CX P w) 4 T.a_begins_alike T.d_begins_alike ["code"] (spD K mg 1 F_begins_alike) :=
  fn_ok T.F_begins_alike sc_begins_alike fun cdv A outer s H E hr tk po =>
    ss_cons (s_expr (e_call (ok_check_code T) (hr.mono (by decide)) rfl T.g_check_code T.F_check_code.kp (bi_check_code T) tk (a_cons (e_name 0) (a_nil)) (len_cons (len_nil))))
    (ss_cons (s_set (i := 1) sc_begins_alike.nd rfl (by first | exact .inl rfl | exact .inr rfl) (e_int))
    (ss_cons (s_while (n := FUEL) po (t_w (w_and (t_cmp op_lt lt_ok (V_E (e_name 1)) (V_E (e_cb (call_min2 rfl) min2_ok rfl T.n_min (by decide +kernel) (v_cons (V_E (e_cb call_len len_ok rfl T.n_len (by decide +kernel) (v_cons (V_E (e_ix ix_seq ix_ok (V_E (e_name 0)) (V_E (e_int)) (fun _ _ => rfl))) (v_nil)))) (v_cons (V_E (e_cb call_len len_ok rfl T.n_len (by decide +kernel) (v_cons (V_E (e_ix ix_seq ix_ok (V_E (e_name 0)) (V_E (e_int)) (fun _ _ => rfl))) (v_nil)))) (v_nil))))) (nomark _)) (w_and1 (t_cmp (op_eqA hr.units) eq_ok (V_E (e_ix ix_seq ix_ok (V_E (e_ix ix_seq ix_ok (V_E (e_name 0)) (V_E (e_int)) (fun _ _ => rfl))) (V_E (e_name 1)) (fun _ _ => rfl))) (V_E (e_ix ix_seq ix_ok (V_E (e_ix ix_seq ix_ok (V_E (e_name 0)) (V_E (e_int)) (fun _ _ => rfl))) (V_E (e_name 1)) (fun _ _ => rfl))) (nomark _)))))
    (ss_one (s_set (i := 1) sc_begins_alike.nd rfl (by first | exact .inl rfl | exact .inr rfl) (e_bin op_addD add_ok (V_E (e_name 1)) (V_E (e_int))))))
    (ss_one (s_ret (e_slice (e_ix ix_seq ix_ok (V_E (e_name 0)) (V_E (e_int)) (fun _ _ => rfl)) (o_none) (o_some (e_name 1)))))))
/-! ### told_at_once -/
def B_told_at_once : SM :=
    seqS (dropS (callM F_check_code (consM (nameM 0) (pureM []))))
    (seqS (setS 1 (mapM1 (consM (mapM1 (consM (op2 ixD (nameM 0) (pureM (.int 0))) (pureM [])) lenD) (consM (mapM1 (consM (op2 ixD (nameM 0) (pureM (.int 1))) (pureM [])) lenD) (pureM []))) min2D))
    (retS (blM (opB neB (sliceM (op2 ixD (nameM 0) (pureM (.int 0))) (partM none) (partM (some (nameM 1)))) (sliceM (op2 ixD (nameM 0) (pureM (.int 1))) (partM none) (partM (some (nameM 1))))))))
def F_told_at_once : List D → Hand → RE D := fnD 2 B_told_at_once
theorem ok_told_at_once (T : Txt K mg) : FnOk P w K mg base (L2.CX P w) 4 T.a_told_at_once T.d_told_at_once ["code"] (spD K mg 1 F_told_at_once) :=
  fn_ok T.F_told_at_once sc_told_at_once fun cdv A outer s H E hr tk po =>
    ss_cons (s_expr (e_call (ok_check_code T) (hr.mono (by decide)) rfl T.g_check_code T.F_check_code.kp (bi_check_code T) tk (a_cons (e_name 0) (a_nil)) (len_cons (len_nil))))
    (ss_cons (s_set (i := 1) sc_told_at_once.nd rfl (by first | exact .inl rfl | exact .inr rfl) (e_cb (call_min2 rfl) min2_ok rfl T.n_min (by decide +kernel) (v_cons (V_E (e_cb call_len len_ok rfl T.n_len (by decide +kernel) (v_cons (V_E (e_ix ix_seq ix_ok (V_E (e_name 0)) (V_E (e_int)) (fun _ _ => rfl))) (v_nil)))) (v_cons (V_E (e_cb call_len len_ok rfl T.n_len (by decide +kernel) (v_cons (V_E (e_ix ix_seq ix_ok (V_E (e_name 0)) (V_E (e_int)) (fun _ _ => rfl))) (v_nil)))) (v_nil)))))
    (ss_one (s_ret (e_cmp (op_neA hr.units) ne_ok (V_E (e_slice (e_ix ix_seq ix_ok (V_E (e_name 0)) (V_E (e_int)) (fun _ _ => rfl)) (o_none) (o_some (e_name 1)))) (V_E (e_slice (e_ix ix_seq ix_ok (V_E (e_name 0)) (V_E (e_int)) (fun _ _ => rfl)) (o_none) (o_some (e_name 1)))) (nomark _)))))
/-! ### _law_sure_right -/
def B__law_sure_right : SM :=
    seqS (asgS (tgT 2 (tgCons (tgN 8) (tgCons (tgN 9) (tgNil)))) (nameM 1))
    (seqS (setS 2 (andV (blM (opB neB (nameM 8) (pureM (.str [])))) (andV (blM (opB neB (nameM 9) (pureM (.str [])))) (blM (opB neB (op2 addD (nameM 8) (nameM 9)) (op2 addD (nameM 9) (nameM 8)))))))
    (seqS (setS 3 (callM F_sure_told (consM (nameM 1) (pureM []))))
    (seqS (ifS (orT (andT (valT (nameM 2)) (opB neB (nameM 3) (tupM (consM (pureM (.str [115, 117, 114, 101])) (pureM []))))) (andT (notT (valT (nameM 2))) (notT (valT (callM F__law_is_two (consM (nameM 1) (consM (nameM 3) (pureM []))))))))
    (retS (pureM (.bl false)))
    (skipS))
    (seqS (setS 4 (lstM (consM (pureM (.str [])) (consM (pureM (.str [97])) (consM (pureM (.str [98])) (consM (pureM (.str [97, 98])) (consM (pureM (.str [98, 97])) (consM (pureM (.str [97, 97, 98])) (consM (pureM (.str [97, 98, 97])) (consM (pureM (.str [97, 98, 98])) (consM (pureM (.str [98, 97, 98])) (pureM []))))))))))))
    (seqS (setLS 5 (lstM (consM (nameM 3) (consM (pureM .non) (consM (tupM (pureM [])) (consM (pureM (.str [115, 117, 114, 101])) (consM (lstM (consM (pureM (.str [115, 117, 114, 101])) (pureM []))) (consM (tupM (consM (pureM (.str [115, 117, 114, 101])) (pureM []))) (consM (tupM (consM (pureM (.str [115, 117, 114, 101])) (consM (pureM (.int 0)) (pureM [])))) (consM (tupM (consM (pureM (.str [116, 119, 111])) (consM (pureM (.str [97])) (pureM [])))) (consM (tupM (consM (pureM (.str [116, 119, 111])) (consM (pureM (.str [99])) (consM (pureM (.str [97])) (pureM []))))) (pureM []))))))))))))
    (seqS (appS' 5 (tupM (consM (pureM (.str [116, 119, 111])) (consM (pureM (.str [63])) (consM (pureM (.str [])) (pureM []))))))
    (seqS (forS (mapM1 (consM (pureM (.int 5)) (pureM [])) rng1) (tgN 6)
    (appS' 5 (tupM (consM (pureM (.str [116, 119, 111])) (consM (callM F__law_any (consM (nameM 0) (consM (nameM 4) (pureM [])))) (consM (callM F__law_any (consM (nameM 0) (consM (nameM 4) (pureM [])))) (pureM [])))))))
    (seqS (frzS 5 (forS (seqItems (nameM 5)) (tgN 7)
    (seqS (setS 10 (ifM (andT (valT (mapM1 (nameM 7) (isiD "tuple"))) (opB eqB (nameM 7) (tupM (consM (pureM (.str [115, 117, 114, 101])) (pureM []))))) (nameM 2) (callM F__law_is_two (consM (nameM 1) (consM (nameM 7) (pureM []))))))
    (ifS (notT (valT (callM F__law_is (consM (callM F_is_sure_told (consM (nameM 1) (consM (nameM 7) (pureM [])))) (consM (nameM 10) (pureM []))))))
    (retS (pureM (.bl false)))
    (skipS)))))
    (retS (pureM (.bl true)))))))))))
def F__law_sure_right : List D → Hand → RE D := fnD 11 B__law_sure_right
theorem ok__law_sure_right (T : Txt K mg) : FnOk P w K mg base (L2.CX P w) 5 T.a__law_sure_right T.d__law_sure_right ["hand", "code"] (spD K mg 2 F__law_sure_right) :=
  fn_ok T.F__law_sure_right sc__law_sure_right fun cdv A outer s H E hr tk po =>
    ss_cons (s_asg (e_name 1) (pg_tup (by rfl) (pgs_cons (pg_name (i := 8) sc__law_sure_right.nd rfl (by first | exact .inl rfl | exact .inr rfl)) (pgs_cons (pg_name (i := 9) sc__law_sure_right.nd rfl (by first | exact .inl rfl | exact .inr rfl)) (pgs_nil)))) (tr_tup (n := 2) (tr_cons (tr_name 8) (tr_cons (tr_name 9) (tr_nil)))))
    (ss_cons (s_set (i := 2) sc__law_sure_right.nd rfl (by first | exact .inl rfl | exact .inr rfl) (e_and (e_cmp (op_neA hr.units) ne_ok (V_E (e_name 8)) (V_E (e_str str_0)) (nomark _)) (e_and (e_cmp (op_neA hr.units) ne_ok (V_E (e_name 9)) (V_E (e_str str_0)) (nomark _)) (e_one (e_cmp (op_neA hr.units) ne_ok (V_E (e_bin op_addD add_ok (V_E (e_name 8)) (V_E (e_name 9)))) (V_E (e_bin op_addD add_ok (V_E (e_name 9)) (V_E (e_name 8)))) (nomark _))))))
    (ss_cons (s_set (i := 3) sc__law_sure_right.nd rfl (by first | exact .inl rfl | exact .inr rfl) (e_call (ok_sure_told T) (hr.mono (by decide)) rfl T.g_sure_told T.F_sure_told.kp (bi_sure_told T) tk (a_cons (e_name 1) (a_nil)) (len_cons (len_nil))))
    (ss_cons (s_if (t_w (w_or (t_w (w_and (t_val (e_name 2)) (w_and1 (t_cmp (op_neA hr.units) ne_ok (V_E (e_name 3)) (V_E (e_tup (a_cons (e_str str_5) (a_nil)))) (nomark _))))) (w_or1 (t_w (w_and (t_not (t_val (e_name 2))) (w_and1 (t_not (t_val (e_call (ok__law_is_two T) (hr.mono (by decide)) rfl T.g__law_is_two T.F__law_is_two.kp (bi__law_is_two T) tk (a_cons (e_name 1) (a_cons (e_name 3) (a_nil))) (len_cons (len_cons (len_nil))))))))))))
    (ss_one (s_ret (e_bl)))
    (ss_nil))
    (ss_cons (s_set (i := 4) sc__law_sure_right.nd rfl (by first | exact .inl rfl | exact .inr rfl) (E_L (e_lst (a_cons (e_str str_0) (a_cons (e_str str_2) (a_cons (e_str str_1) (a_cons (e_str str_3) (a_cons (e_str str_10) (a_cons (e_str str_9) (a_cons (e_str str_8) (a_cons (e_str str_7) (a_cons (e_str str_6) (a_nil)))))))))))))
    (ss_cons (s_setL (i := 5) sc__law_sure_right.nd rfl (by first | exact .inl rfl | exact .inr rfl) (e_lst (a_cons (e_name 3) (a_cons (e_non) (a_cons (e_tup (a_nil)) (a_cons (e_str str_5) (a_cons (E_L (e_lst (a_cons (e_str str_5) (a_nil)))) (a_cons (e_tup (a_cons (e_str str_5) (a_nil))) (a_cons (e_tup (a_cons (e_str str_5) (a_cons (e_int) (a_nil)))) (a_cons (e_tup (a_cons (e_str str_4) (a_cons (e_str str_2) (a_nil)))) (a_cons (e_tup (a_cons (e_str str_4) (a_cons (e_str str_11) (a_cons (e_str str_2) (a_nil))))) (a_nil))))))))))))
    (ss_cons (s_append (i := 5) rfl (by first | exact .inl rfl | exact .inr (.inl rfl) | exact .inr (.inr rfl)) (e_tup (a_cons (e_str str_4) (a_cons (e_str str_12) (a_cons (e_str str_0) (a_nil))))))
    (ss_cons (s_for po rfl (i_range1 rfl T.n_range (a_cons (e_int) (a_nil))) (pg_name (i := 6) sc__law_sure_right.nd rfl (by first | exact .inl rfl | exact .inr rfl)) (tr_name 6)
    (ss_one (s_append (i := 5) rfl (by first | exact .inl rfl | exact .inr (.inl rfl) | exact .inr (.inr rfl)) (e_tup (a_cons (e_str str_4) (a_cons (e_call (ok__law_any T) (hr.mono (by decide)) rfl T.g__law_any T.F__law_any.kp (bi__law_any T) tk (a_cons (e_name 0) (a_cons (e_name 4) (a_nil))) (len_cons (len_cons (len_nil)))) (a_cons (e_call (ok__law_any T) (hr.mono (by decide)) rfl T.g__law_any T.F__law_any.kp (bi__law_any T) tk (a_cons (e_name 0) (a_cons (e_name 4) (a_nil))) (len_cons (len_cons (len_nil)))) (a_nil))))))))
    (ss_cons (s_frz 5 (s_for po rfl (i_seq (e_name 5)) (pg_name (i := 7) sc__law_sure_right.nd rfl (by first | exact .inl rfl | exact .inr rfl)) (tr_name 7)
    (ss_cons (s_set (i := 10) sc__law_sure_right.nd rfl (by first | exact .inl rfl | exact .inr rfl) (e_if (t_w (w_and (t_val (e_isi (T := "tuple") rfl T.n_isinstance (V_E (e_name 7)) rfl T.n_tuple (by decide +kernel))) (w_and1 (t_cmp (op_eqA hr.units) eq_ok (V_E (e_name 7)) (V_E (e_tup (a_cons (e_str str_5) (a_nil)))) (nomark _))))) (e_name 2) (e_call (ok__law_is_two T) (hr.mono (by decide)) rfl T.g__law_is_two T.F__law_is_two.kp (bi__law_is_two T) tk (a_cons (e_name 1) (a_cons (e_name 7) (a_nil))) (len_cons (len_cons (len_nil))))))
    (ss_one (s_if (t_not (t_val (e_call (ok__law_is T) (hr.mono (by decide)) rfl T.g__law_is T.F__law_is.kp (bi__law_is T) tk (a_cons (e_call (ok_is_sure_told T) (hr.mono (by decide)) rfl T.g_is_sure_told T.F_is_sure_told.kp (bi_is_sure_told T) tk (a_cons (e_name 1) (a_cons (e_name 7) (a_nil))) (len_cons (len_cons (len_nil)))) (a_cons (e_name 10) (a_nil))) (len_cons (len_cons (len_nil))))))
    (ss_one (s_ret (e_bl)))
    (ss_nil))))))
    (ss_one (s_ret (e_bl)))))))))))
/-! ### _law_case_right -/
def q__law_case_right : Str := "_law_case_right.<locals>.<lambda>"
def B__law_case_right (P : Addr) : SM :=
    seqS (asgS (tgT 2 (tgCons (tgN 6) (tgCons (tgN 7) (tgNil)))) (tupM (consM (callM F__law_code (consM (nameM 0) (pureM []))) (consM (callM F__law_code (consM (nameM 0) (pureM []))) (pureM [])))))
    (seqS (forS (mapM1 (consM (pureM (.int 5)) (pureM [])) rng1) (tgN 1)
    (seqS (setS 8 (msM (pureM (.str [])) (consM (compM (mapM1 (consM (callM F__law_draw (consM (nameM 0) (consM (pureM (.int 6)) (pureM [])))) (pureM [])) rng1) (tgN 15) [15] (pureM true) (callM F__law_any (consM (nameM 0) (consM (lstM (consM (pureM (.str [97])) (consM (pureM (.str [98])) (pureM [])))) (pureM []))))) (pureM [])) joinD))
    (seqS (setS 9 (callM F__law_image (consM (nameM 6) (consM (nameM 8) (pureM [])))))
    (seqS (ifS (notT (valT (callM F__law_is (consM (callM F_image (consM (nameM 6) (consM (nameM 8) (pureM [])))) (consM (nameM 9) (pureM []))))))
    (retS (pureM (.bl false)))
    (skipS))
    (forS (seqItems (tupM (consM (nameM 9) (consM (nameM 8) (pureM []))))) (tgN 10)
    (seqS (asgS (tgT 2 (tgCons (tgN 13) (tgCons (tgN 14) (tgNil)))) (callM F__law_backs (consM (nameM 6) (consM (nameM 10) (pureM [])))))
    (ifS (notT (valT (callM F__law_is (consM (lstM (consM (callM F_read_back (consM (nameM 6) (consM (nameM 10) (pureM [])))) (consM (callM F_many_back (consM (nameM 6) (consM (nameM 10) (pureM [])))) (pureM [])))) (consM (lstM (consM (nameM 13) (consM (nameM 14) (pureM [])))) (pureM []))))))
    (retS (pureM (.bl false)))
    (skipS))))))))
    (seqS (asgS (tgT 2 (tgCons (tgN 11) (tgCons (tgN 12) (tgNil)))) (nameM 6))
    (seqS (setS 2 (pureM (.str [])))
    (seqS (forS (mapM1 (consM (mapM1 (consM (mapM1 (consM (nameM 11) (pureM [])) lenD) (consM (mapM1 (consM (nameM 12) (pureM [])) lenD) (pureM []))) min2D) (pureM [])) rng1) (tgN 3)
    (setS 2 (ifM (opB eqB (sliceM (nameM 11) (partM none) (partM (some (op2 addD (nameM 3) (pureM (.int 1)))))) (sliceM (nameM 12) (partM none) (partM (some (op2 addD (nameM 3) (pureM (.int 1))))))) (sliceM (nameM 11) (partM none) (partM (some (op2 addD (nameM 3) (pureM (.int 1)))))) (nameM 2))))
    (seqS (setS 4 (andV (blM (opB neB (sliceM (nameM 11) (partM none) (partM (some (mapM1 (consM (nameM 12) (pureM [])) lenD)))) (nameM 12))) (blM (opB neB (sliceM (nameM 12) (partM none) (partM (some (mapM1 (consM (nameM 11) (pureM [])) lenD)))) (nameM 11)))))
    (seqS (ifS (notT (valT (callM F__law_is (consM (lstM (consM (callM F_begins_alike (consM (nameM 6) (pureM []))) (consM (callM F_told_at_once (consM (nameM 6) (pureM []))) (pureM [])))) (consM (lstM (consM (nameM 2) (consM (nameM 4) (pureM [])))) (pureM []))))))
    (retS (pureM (.bl false)))
    (skipS))
    (seqS (setS 5 (tupM (consM (callM F__law_image (consM (nameM 7) (consM (nameM 11) (pureM [])))) (consM (callM F__law_image (consM (nameM 7) (consM (nameM 12) (pureM [])))) (pureM [])))))
    (seqS (setS 5 (ifM (opB gtB (mapM1 (consM (compM (seqItems (nameM 5)) (tgN 15) [15] (pureM true) (mapM1 (consM (nameM 15) (pureM [])) lenD)) (pureM [])) maxD) (pureM (.int 4))) (pureM (.str [33, 78, 111, 67, 111, 100, 101])) (nameM 5)))
    (retS (andV (callM F__law_is (consM (wordM P q__law_case_right (callM F_joined_codes (consM (nameM 6) (consM (nameM 7) (pureM []))))) (consM (nameM 5) (pureM [])))) (callM F__law_sure_right (consM (nameM 0) (consM (nameM 6) (pureM []))))))))))))))
def F__law_case_right (P : Addr) : List D → Hand → RE D := fnD 16 (B__law_case_right P)
theorem ok__law_case_right (T : Txt K mg) (TB : LamX.TabB base mg T.cd__law_case_right T.tb__law_case_right) : FnOk P w K mg base (L2.CX P w) 7 T.a__law_case_right T.d__law_case_right ["hand"] (spD K mg 1 (F__law_case_right T.tb__law_case_right)) :=
  fn_okC T.F__law_case_right T.k__law_case_right sc__law_case_right fun A outer s H E hr tk po =>
    ss_cons (s_asg (e_tup (a_cons (e_call (ok__law_code T) (hr.mono (by decide)) rfl T.g__law_code T.F__law_code.kp (bi__law_code T) tk (a_cons (e_name 0) (a_nil)) (len_cons (len_nil))) (a_cons (e_call (ok__law_code T) (hr.mono (by decide)) rfl T.g__law_code T.F__law_code.kp (bi__law_code T) tk (a_cons (e_name 0) (a_nil)) (len_cons (len_nil))) (a_nil)))) (pg_tup (by rfl) (pgs_cons (pg_name (i := 6) sc__law_case_right.nd rfl (by first | exact .inl rfl | exact .inr rfl)) (pgs_cons (pg_name (i := 7) sc__law_case_right.nd rfl (by first | exact .inl rfl | exact .inr rfl)) (pgs_nil)))) (tr_tup (n := 2) (tr_cons (tr_name 6) (tr_cons (tr_name 7) (tr_nil)))))
    (ss_cons (s_for po rfl (i_range1 rfl T.n_range (a_cons (e_int) (a_nil))) (pg_name (i := 1) sc__law_case_right.nd rfl (by first | exact .inl rfl | exact .inr rfl)) (tr_name 1)
    (ss_cons (s_set (i := 8) sc__law_case_right.nd rfl (by first | exact .inl rfl | exact .inr rfl) (e_join (e_str str_0) (v_cons (V_L (e_lc (own := [("part", 15)]) rfl sc__law_case_right.nd (i_range1 rfl T.n_range (a_cons (e_call (ok__law_draw T) (hr.mono (by decide)) rfl T.g__law_draw T.F__law_draw.kp (bi__law_draw T) tk (a_cons (e_name 0) (a_cons (e_int) (a_nil))) (len_cons (len_cons (len_nil)))) (a_nil))) (blkOk_by (N := N__law_case_right) (sc := defScope s__law_case_right) (by decide +kernel)) (fun _ _ _ _ _ => pg_name (i := 15) sc__law_case_right.nd rfl (by first | exact .inl rfl | exact .inr rfl)) (tr_name 15) (fun _ _ _ _ _ => ts_nil) (fun _ _ _ _ _ => e_call (ok__law_any T) (hr.mono (by decide)) rfl T.g__law_any T.F__law_any.kp (bi__law_any T) L2.takes0 (a_cons (e_name 0) (a_cons (E_L (e_lst (a_cons (e_str str_2) (a_cons (e_str str_1) (a_nil))))) (a_nil))) (len_cons (len_cons (len_nil)))) (by decide))) (v_nil))))
    (ss_cons (s_set (i := 9) sc__law_case_right.nd rfl (by first | exact .inl rfl | exact .inr rfl) (e_call (ok__law_image T) (hr.mono (by decide)) rfl T.g__law_image T.F__law_image.kp (bi__law_image T) tk (a_cons (e_name 6) (a_cons (e_name 8) (a_nil))) (len_cons (len_cons (len_nil)))))
    (ss_cons (s_if (t_not (t_val (e_call (ok__law_is T) (hr.mono (by decide)) rfl T.g__law_is T.F__law_is.kp (bi__law_is T) tk (a_cons (e_call (ok_image T) (hr.mono (by decide)) rfl T.g_image T.F_image.kp (bi_image T) tk (a_cons (e_name 6) (a_cons (e_name 8) (a_nil))) (len_cons (len_cons (len_nil)))) (a_cons (e_name 9) (a_nil))) (len_cons (len_cons (len_nil))))))
    (ss_one (s_ret (e_bl)))
    (ss_nil))
    (ss_one (s_for po rfl (i_seq (e_tup (a_cons (e_name 9) (a_cons (e_name 8) (a_nil))))) (pg_name (i := 10) sc__law_case_right.nd rfl (by first | exact .inl rfl | exact .inr rfl)) (tr_name 10)
    (ss_cons (s_asg (e_call (ok__law_backs T) (hr.mono (by decide)) rfl T.g__law_backs T.F__law_backs.kp (bi__law_backs T) tk (a_cons (e_name 6) (a_cons (e_name 10) (a_nil))) (len_cons (len_cons (len_nil)))) (pg_tup (by rfl) (pgs_cons (pg_name (i := 13) sc__law_case_right.nd rfl (by first | exact .inl rfl | exact .inr rfl)) (pgs_cons (pg_name (i := 14) sc__law_case_right.nd rfl (by first | exact .inl rfl | exact .inr rfl)) (pgs_nil)))) (tr_tup (n := 2) (tr_cons (tr_name 13) (tr_cons (tr_name 14) (tr_nil)))))
    (ss_one (s_if (t_not (t_val (e_call (ok__law_is T) (hr.mono (by decide)) rfl T.g__law_is T.F__law_is.kp (bi__law_is T) tk (a_cons (E_L (e_lst (a_cons (e_call (ok_read_back T) (hr.mono (by decide)) rfl T.g_read_back T.F_read_back.kp (bi_read_back T) tk (a_cons (e_name 6) (a_cons (e_name 10) (a_nil))) (len_cons (len_cons (len_nil)))) (a_cons (e_call (ok_many_back T) (hr.mono (by decide)) rfl T.g_many_back T.F_many_back.kp (bi_many_back T) tk (a_cons (e_name 6) (a_cons (e_name 10) (a_nil))) (len_cons (len_cons (len_nil)))) (a_nil))))) (a_cons (E_L (e_lst (a_cons (e_name 13) (a_cons (e_name 14) (a_nil))))) (a_nil))) (len_cons (len_cons (len_nil))))))
    (ss_one (s_ret (e_bl)))
    (ss_nil))))))))))
    (ss_cons (s_asg (e_name 6) (pg_tup (by rfl) (pgs_cons (pg_name (i := 11) sc__law_case_right.nd rfl (by first | exact .inl rfl | exact .inr rfl)) (pgs_cons (pg_name (i := 12) sc__law_case_right.nd rfl (by first | exact .inl rfl | exact .inr rfl)) (pgs_nil)))) (tr_tup (n := 2) (tr_cons (tr_name 11) (tr_cons (tr_name 12) (tr_nil)))))
    (ss_cons (s_set (i := 2) sc__law_case_right.nd rfl (by first | exact .inl rfl | exact .inr rfl) (e_str str_0))
    (ss_cons (s_for po rfl (i_range1 rfl T.n_range (a_cons (e_cb (call_min2 rfl) min2_ok rfl T.n_min (by decide +kernel) (v_cons (V_E (e_cb call_len len_ok rfl T.n_len (by decide +kernel) (v_cons (V_E (e_name 11)) (v_nil)))) (v_cons (V_E (e_cb call_len len_ok rfl T.n_len (by decide +kernel) (v_cons (V_E (e_name 12)) (v_nil)))) (v_nil)))) (a_nil))) (pg_name (i := 3) sc__law_case_right.nd rfl (by first | exact .inl rfl | exact .inr rfl)) (tr_name 3)
    (ss_one (s_set (i := 2) sc__law_case_right.nd rfl (by first | exact .inl rfl | exact .inr rfl) (e_if (t_cmp (op_eqA hr.units) eq_ok (V_E (e_slice (e_name 11) (o_none) (o_some (e_bin op_addD add_ok (V_E (e_name 3)) (V_E (e_int)))))) (V_E (e_slice (e_name 12) (o_none) (o_some (e_bin op_addD add_ok (V_E (e_name 3)) (V_E (e_int)))))) (nomark _)) (e_slice (e_name 11) (o_none) (o_some (e_bin op_addD add_ok (V_E (e_name 3)) (V_E (e_int))))) (e_name 2)))))
    (ss_cons (s_set (i := 4) sc__law_case_right.nd rfl (by first | exact .inl rfl | exact .inr rfl) (e_and (e_cmp (op_neA hr.units) ne_ok (V_E (e_slice (e_name 11) (o_none) (o_some (e_cb call_len len_ok rfl T.n_len (by decide +kernel) (v_cons (V_E (e_name 12)) (v_nil)))))) (V_E (e_name 12)) (nomark _)) (e_one (e_cmp (op_neA hr.units) ne_ok (V_E (e_slice (e_name 12) (o_none) (o_some (e_cb call_len len_ok rfl T.n_len (by decide +kernel) (v_cons (V_E (e_name 11)) (v_nil)))))) (V_E (e_name 11)) (nomark _)))))
    (ss_cons (s_if (t_not (t_val (e_call (ok__law_is T) (hr.mono (by decide)) rfl T.g__law_is T.F__law_is.kp (bi__law_is T) tk (a_cons (E_L (e_lst (a_cons (e_call (ok_begins_alike T) (hr.mono (by decide)) rfl T.g_begins_alike T.F_begins_alike.kp (bi_begins_alike T) tk (a_cons (e_name 6) (a_nil)) (len_cons (len_nil))) (a_cons (e_call (ok_told_at_once T) (hr.mono (by decide)) rfl T.g_told_at_once T.F_told_at_once.kp (bi_told_at_once T) tk (a_cons (e_name 6) (a_nil)) (len_cons (len_nil))) (a_nil))))) (a_cons (E_L (e_lst (a_cons (e_name 2) (a_cons (e_name 4) (a_nil))))) (a_nil))) (len_cons (len_cons (len_nil))))))
    (ss_one (s_ret (e_bl)))
    (ss_nil))
    (ss_cons (s_set (i := 5) sc__law_case_right.nd rfl (by first | exact .inl rfl | exact .inr rfl) (e_tup (a_cons (e_call (ok__law_image T) (hr.mono (by decide)) rfl T.g__law_image T.F__law_image.kp (bi__law_image T) tk (a_cons (e_name 7) (a_cons (e_name 11) (a_nil))) (len_cons (len_cons (len_nil)))) (a_cons (e_call (ok__law_image T) (hr.mono (by decide)) rfl T.g__law_image T.F__law_image.kp (bi__law_image T) tk (a_cons (e_name 7) (a_cons (e_name 12) (a_nil))) (len_cons (len_cons (len_nil)))) (a_nil)))))
    (ss_cons (s_set (i := 5) sc__law_case_right.nd rfl (by first | exact .inl rfl | exact .inr rfl) (e_if (t_cmp op_gt gt_ok (V_E (e_cb (cr_max rfl) max_ok rfl T.n_max (by decide +kernel) (v_cons (V_L (e_lc (own := [("part", 15)]) rfl sc__law_case_right.nd (i_seq (e_name 5)) (blkOk_by (N := N__law_case_right) (sc := defScope s__law_case_right) (by decide +kernel)) (fun _ _ _ _ _ => pg_name (i := 15) sc__law_case_right.nd rfl (by first | exact .inl rfl | exact .inr rfl)) (tr_name 15) (fun _ _ _ _ _ => ts_nil) (fun _ _ _ _ _ => e_cb call_len len_ok rfl T.n_len (by decide +kernel) (v_cons (V_E (e_name 15)) (v_nil))) (by decide))) (v_nil)))) (V_E (e_int)) (nomark _)) (e_str str_13) (e_name 5)))
    (ss_one (s_ret (e_and (e_call (ok__law_is T) (hr.mono (by decide)) rfl T.g__law_is T.F__law_is.kp (bi__law_is T) tk (a_cons (e_word (k := 4) (dv := none) (px := "") T.ex T.F__law_word T.g__law_word (bi__law_word T) rfl TB rfl (hr.mono (by decide)) (lamD_by (N := N__law_case_right) (sc := defScope s__law_case_right) (by decide +kernel)) rfl rfl (fun _ _ _ _ _ _ => rfl) (fun A outer s H E f' c' hr tk => e_call (ok_joined_codes T) (hr.mono (by decide)) rfl T.g_joined_codes T.F_joined_codes.kp (bi_joined_codes T) tk (a_cons (e_name 6) (a_cons (e_name 7) (a_nil))) (len_cons (len_cons (len_nil))))) (a_cons (e_name 5) (a_nil))) (len_cons (len_cons (len_nil)))) (e_one (e_call (ok__law_sure_right T) (hr.mono (by decide)) rfl T.g__law_sure_right T.F__law_sure_right.kp (bi__law_sure_right T) tk (a_cons (e_name 0) (a_cons (e_name 6) (a_nil))) (len_cons (len_cons (len_nil))))))))))))))))
/-! ### law -/
def q_law : Str := "law.<locals>.<lambda>"
def B_law (P : Addr) (P__law_case_right : Addr) : SM :=
    seqS (setLS 2 (lstM (consM (callM F_image (consM (tupM (consM (pureM (.str [97, 98])) (consM (pureM (.str [98])) (pureM [])))) (consM (pureM (.str [97, 97, 98])) (pureM [])))) (consM (callM F_read_back (consM (tupM (consM (pureM (.str [97, 98])) (consM (pureM (.str [98])) (pureM [])))) (consM (pureM (.str [97, 98, 98])) (pureM [])))) (consM (callM F_many_back (consM (tupM (consM (pureM (.str [97])) (consM (pureM (.str [97, 97])) (pureM [])))) (consM (pureM (.str [97, 97, 97])) (pureM [])))) (pureM []))))))
    (seqS (appS' 2 (callM F_many_back (consM (tupM (consM (pureM (.str [])) (consM (pureM (.str [98])) (pureM [])))) (consM (pureM (.str [98])) (pureM [])))))
    (seqS (frzS 2 (ifS (notT (valT (callM F__law_is (consM (nameM 2) (consM (lstM (consM (pureM (.str [97, 98, 97, 98, 98])) (consM (pureM (.str [97, 98])) (consM (pureM (.int 3)) (consM (pureM .non) (pureM [])))))) (pureM []))))))
    (retS (pureM (.bl false)))
    (skipS)))
    (seqS (setS 3 (callM F__law_any (consM (nameM 1) (consM (lstM (consM (pureM .non) (consM (tupM (pureM [])) (consM (tupM (consM (pureM (.str [97])) (pureM []))) (consM (lstM (consM (pureM (.str [97])) (consM (pureM (.str [98])) (pureM [])))) (consM (tupM (consM (pureM (.str [97, 98, 98, 97, 98])) (consM (pureM (.str [97])) (pureM [])))) (consM (tupM (consM (pureM (.str [99])) (consM (pureM (.str [97])) (pureM [])))) (consM (tupM (consM (pureM (.str [97])) (consM (pureM (.int 5)) (pureM [])))) (consM (pureM (.str [97, 98])) (pureM [])))))))))) (pureM [])))))
    (seqS (setLS 4 (lstM (consM (wordM P q_law (callM F_image (consM (nameM 3) (consM (pureM .non) (pureM []))))) (consM (wordM P q_law (callM F_image (consM (tupM (consM (pureM (.str [97])) (consM (pureM (.str [98])) (pureM [])))) (consM (pureM (.str [97, 98, 99])) (pureM []))))) (pureM [])))))
    (seqS (appS' 4 (wordM P q_law (callM F_joined_codes (consM (tupM (consM (pureM (.str [97])) (consM (pureM (.str [98])) (pureM [])))) (consM (nameM 3) (pureM []))))))
    (seqS (ifS (opB neB (viewM 4) (lstM (consM (pureM (.str [33, 78, 111, 67, 111, 100, 101])) (consM (pureM (.str [33, 78, 111, 87, 111, 114, 100])) (consM (pureM (.str [33, 78, 111, 67, 111, 100, 101])) (pureM []))))))
    (retS (pureM (.bl false)))
    (skipS))
    (retS (mapM1 (consM (compM (mapM1 (consM (pureM (.int 4)) (pureM [])) rng1) (tgN 5) [5] (pureM true) (callM (F__law_case_right P__law_case_right) (consM (nameM 1) (pureM [])))) (pureM [])) allD))))))))
theorem dv_law (T : Txt K mg) (TB__law_case_right : LamX.TabB base mg T.cd__law_case_right T.tb__law_case_right) (TB : LamX.TabB base mg T.cd_law T.tb_law) (A : Around) (outer : List Env) (s : Shared) (H : Hp) (E : XK) (hr : Room 7 (cxOf C8.CX0 P w K mg base N_law "law" (defScope s_law) T.a_law (.ref T.cd_law) A outer s H E).nox.A) (po : PassesOwn (model P w) (cxOf C8.CX0 P w K mg base N_law "law" (defScope s_law) T.a_law (.ref T.cd_law) A outer s H E).nox.A (cxOf C8.CX0 P w K mg base N_law "law" (defScope s_law) T.a_law (.ref T.cd_law) A outer s H E).nox.env (cxOf C8.CX0 P w K mg base N_law "law" (defScope s_law) T.a_law (.ref T.cd_law) A outer s H E).nox.xe) : DSs (cxOf C8.CX0 P w K mg base N_law "law" (defScope s_law) T.a_law (.ref T.cd_law) A outer s H E).nox W0 (defBody s_law).tail (B_law T.tb_law T.tb__law_case_right) :=
    have tk : Takes (cxOf C8.CX0 P w K mg base N_law "law" (defScope s_law) T.a_law (.ref T.cd_law) A outer s H E).nox W0 := L2.takes0
    ss_cons (s_setL (i := 2) sc_law.nd rfl (by first | exact .inl rfl | exact .inr rfl) (e_lst (a_cons (e_call (ok_image T) (hr.mono (by decide)) rfl T.g_image T.F_image.kp (bi_image T) tk (a_cons (e_tup (a_cons (e_str str_3) (a_cons (e_str str_1) (a_nil)))) (a_cons (e_str str_9) (a_nil))) (len_cons (len_cons (len_nil)))) (a_cons (e_call (ok_read_back T) (hr.mono (by decide)) rfl T.g_read_back T.F_read_back.kp (bi_read_back T) tk (a_cons (e_tup (a_cons (e_str str_3) (a_cons (e_str str_1) (a_nil)))) (a_cons (e_str str_7) (a_nil))) (len_cons (len_cons (len_nil)))) (a_cons (e_call (ok_many_back T) (hr.mono (by decide)) rfl T.g_many_back T.F_many_back.kp (bi_many_back T) tk (a_cons (e_tup (a_cons (e_str str_2) (a_cons (e_str str_15) (a_nil)))) (a_cons (e_str str_14) (a_nil))) (len_cons (len_cons (len_nil)))) (a_nil))))))
    (ss_cons (s_append (i := 2) rfl (by first | exact .inl rfl | exact .inr (.inl rfl) | exact .inr (.inr rfl)) (e_call (ok_many_back T) (hr.mono (by decide)) rfl T.g_many_back T.F_many_back.kp (bi_many_back T) tk (a_cons (e_tup (a_cons (e_str str_0) (a_cons (e_str str_1) (a_nil)))) (a_cons (e_str str_1) (a_nil))) (len_cons (len_cons (len_nil)))))
    (ss_cons (s_frz 2 (s_if (t_not (t_val (e_call (ok__law_is T) (hr.mono (by decide)) rfl T.g__law_is T.F__law_is.kp (bi__law_is T) tk (a_cons (e_name 2) (a_cons (E_L (e_lst (a_cons (e_str str_16) (a_cons (e_str str_3) (a_cons (e_int) (a_cons (e_non) (a_nil))))))) (a_nil))) (len_cons (len_cons (len_nil))))))
    (ss_one (s_ret (e_bl)))
    (ss_nil)))
    (ss_cons (s_set (i := 3) sc_law.nd rfl (by first | exact .inl rfl | exact .inr rfl) (e_call (ok__law_any T) (hr.mono (by decide)) rfl T.g__law_any T.F__law_any.kp (bi__law_any T) tk (a_cons (e_name 1) (a_cons (E_L (e_lst (a_cons (e_non) (a_cons (e_tup (a_nil)) (a_cons (e_tup (a_cons (e_str str_2) (a_nil))) (a_cons (E_L (e_lst (a_cons (e_str str_2) (a_cons (e_str str_1) (a_nil))))) (a_cons (e_tup (a_cons (e_str str_17) (a_cons (e_str str_2) (a_nil)))) (a_cons (e_tup (a_cons (e_str str_11) (a_cons (e_str str_2) (a_nil)))) (a_cons (e_tup (a_cons (e_str str_2) (a_cons (e_int) (a_nil)))) (a_cons (e_str str_3) (a_nil))))))))))) (a_nil))) (len_cons (len_cons (len_nil)))))
    (ss_cons (s_setL (i := 4) sc_law.nd rfl (by first | exact .inl rfl | exact .inr rfl) (e_lst (a_cons (e_word (k := 4) (dv := none) (px := "") T.ex T.F__law_word T.g__law_word (bi__law_word T) rfl TB rfl (hr.mono (by decide)) (lamD_by (N := N_law) (sc := defScope s_law) (by decide +kernel)) rfl rfl (fun _ _ _ _ _ _ => rfl) (fun A outer s H E f' c' hr tk => e_call (ok_image T) (hr.mono (by decide)) rfl T.g_image T.F_image.kp (bi_image T) tk (a_cons (e_name 3) (a_cons (e_non) (a_nil))) (len_cons (len_cons (len_nil))))) (a_cons (e_word (k := 4) (dv := some 0) (px := "of") T.ex T.F__law_word T.g__law_word (bi__law_word T) rfl TB rfl (hr.mono (by decide)) (lamD_by (N := N_law) (sc := defScope s_law) (by decide +kernel)) ⟨_, _, rfl⟩ rfl (dfB_one _ _ _ _ _ _ _) (fun A outer s H E f' c' hr tk => e_call (ok_image T) (hr.mono (by decide)) rfl T.g_image T.F_image.kp (bi_image T) tk (a_cons (e_tup (a_cons (e_str str_2) (a_cons (e_str str_1) (a_nil)))) (a_cons (e_str str_18) (a_nil))) (len_cons (len_cons (len_nil))))) (a_nil)))))
    (ss_cons (s_append (i := 4) rfl (by first | exact .inl rfl | exact .inr (.inl rfl) | exact .inr (.inr rfl)) (e_word (k := 4) (dv := none) (px := "") T.ex T.F__law_word T.g__law_word (bi__law_word T) rfl TB rfl (hr.mono (by decide)) (lamD_by (N := N_law) (sc := defScope s_law) (by decide +kernel)) rfl rfl (fun _ _ _ _ _ _ => rfl) (fun A outer s H E f' c' hr tk => e_call (ok_joined_codes T) (hr.mono (by decide)) rfl T.g_joined_codes T.F_joined_codes.kp (bi_joined_codes T) tk (a_cons (e_tup (a_cons (e_str str_2) (a_cons (e_str str_1) (a_nil)))) (a_cons (e_name 3) (a_nil))) (len_cons (len_cons (len_nil))))))
    (ss_cons (s_if (t_cmp (op_neA hr.units) ne_ok (e_view 4) (V_L (e_lst (a_cons (e_str str_13) (a_cons (e_str str_19) (a_cons (e_str str_13) (a_nil)))))) (nomark _))
    (ss_one (s_ret (e_bl)))
    (ss_nil))
    (ss_one (s_ret (e_cb (cr_all rfl) all_ok rfl T.n_all (by decide +kernel) (v_cons (V_L (e_lc (own := [("turn", 5)]) rfl sc_law.nd (i_range1 rfl T.n_range (a_cons (e_int) (a_nil))) (blkOk_by (N := N_law) (sc := defScope s_law) (by decide +kernel)) (fun _ _ _ _ _ => pg_name (i := 5) sc_law.nd rfl (by first | exact .inl rfl | exact .inr rfl)) (tr_name 5) (fun _ _ _ _ _ => ts_nil) (fun _ _ _ _ _ => e_call (ok__law_case_right T TB__law_case_right) (hr.mono (by decide)) rfl T.g__law_case_right T.F__law_case_right.kp (bi__law_case_right T) L2.takes0 (a_cons (e_name 1) (a_nil)) (len_cons (len_nil))) (by decide))) (v_nil)))))))))))
end
end G66

set_option Elab.async false
set_option linter.all false
set_option maxRecDepth 100000
set_option maxHeartbeats 4000000
namespace G66
open PySem PySem.Spec PyProof.Rows L2 DL
section
variable {K : PySem.W.Frag} {h : Heap} {mg : Str → Option Value}
def mkTxt (X : K.In h) (G : h.Ns mainGlobals mg)
    {f_is_sized : Addr} {oc_is_sized kV_is_sized dc_is_sized pm_is_sized ct_is_sized cd_is_sized : Value} {od_is_sized an_is_sized : Option Addr} {sl_is_sized : Array (Option Value)}
    {f_is_letters : Addr} {oc_is_letters kV_is_letters dc_is_letters pm_is_letters ct_is_letters cd_is_letters : Value} {od_is_letters an_is_letters : Option Addr} {sl_is_letters : Array (Option Value)}
    {f_check_word : Addr} {oc_check_word kV_check_word dc_check_word pm_check_word ct_check_word cd_check_word : Value} {od_check_word an_check_word : Option Addr} {sl_check_word : Array (Option Value)}
    {f_is_code : Addr} {oc_is_code kV_is_code dc_is_code pm_is_code ct_is_code cd_is_code : Value} {od_is_code an_is_code : Option Addr} {sl_is_code : Array (Option Value)}
    {f_check_code : Addr} {oc_check_code kV_check_code dc_check_code pm_check_code ct_check_code cd_check_code : Value} {od_check_code an_check_code : Option Addr} {sl_check_code : Array (Option Value)}
    {f_raw_image : Addr} {oc_raw_image kV_raw_image dc_raw_image pm_raw_image ct_raw_image cd_raw_image : Value} {od_raw_image an_raw_image : Option Addr} {sl_raw_image : Array (Option Value)}
    {f_image : Addr} {oc_image kV_image dc_image pm_image ct_image cd_image : Value} {od_image an_image : Option Addr} {sl_image : Array (Option Value)}
    {f_counts_back : Addr} {oc_counts_back kV_counts_back dc_counts_back pm_counts_back ct_counts_back cd_counts_back : Value} {od_counts_back an_counts_back : Option Addr} {sl_counts_back : Array (Option Value)}
    {f_many_back : Addr} {oc_many_back kV_many_back dc_many_back pm_many_back ct_many_back cd_many_back : Value} {od_many_back an_many_back : Option Addr} {sl_many_back : Array (Option Value)}
    {f_read_back : Addr} {oc_read_back kV_read_back dc_read_back pm_read_back ct_read_back cd_read_back : Value} {od_read_back an_read_back : Option Addr} {sl_read_back : Array (Option Value)}
    {f_raw_sure : Addr} {oc_raw_sure kV_raw_sure dc_raw_sure pm_raw_sure ct_raw_sure cd_raw_sure : Value} {od_raw_sure an_raw_sure : Option Addr} {sl_raw_sure : Array (Option Value)}
    {f_sure_told : Addr} {oc_sure_told kV_sure_told dc_sure_told pm_sure_told ct_sure_told cd_sure_told : Value} {od_sure_told an_sure_told : Option Addr} {sl_sure_told : Array (Option Value)}
    {f_is_sure_told : Addr} {oc_is_sure_told kV_is_sure_told dc_is_sure_told pm_is_sure_told ct_is_sure_told cd_is_sure_told : Value} {od_is_sure_told an_is_sure_told : Option Addr} {sl_is_sure_told : Array (Option Value)}
    {f_joined_codes : Addr} {oc_joined_codes kV_joined_codes dc_joined_codes pm_joined_codes ct_joined_codes cd_joined_codes : Value} {od_joined_codes an_joined_codes : Option Addr} {sl_joined_codes : Array (Option Value)}
    {f_begins_alike : Addr} {oc_begins_alike kV_begins_alike dc_begins_alike pm_begins_alike ct_begins_alike cd_begins_alike : Value} {od_begins_alike an_begins_alike : Option Addr} {sl_begins_alike : Array (Option Value)}
    {f_told_at_once : Addr} {oc_told_at_once kV_told_at_once dc_told_at_once pm_told_at_once ct_told_at_once cd_told_at_once : Value} {od_told_at_once an_told_at_once : Option Addr} {sl_told_at_once : Array (Option Value)}
    {f__law_hand : Addr} {oc__law_hand kV__law_hand dc__law_hand pm__law_hand ct__law_hand cd__law_hand : Value} {od__law_hand an__law_hand : Option Addr} {sl__law_hand : Array (Option Value)}
    {f__law_draw : Addr} {oc__law_draw kV__law_draw dc__law_draw pm__law_draw ct__law_draw cd__law_draw : Value} {od__law_draw an__law_draw : Option Addr} {sl__law_draw : Array (Option Value)}
    {f__law_any : Addr} {oc__law_any kV__law_any dc__law_any pm__law_any ct__law_any cd__law_any : Value} {od__law_any an__law_any : Option Addr} {sl__law_any : Array (Option Value)}
    {f__law_is : Addr} {oc__law_is kV__law_is dc__law_is pm__law_is ct__law_is cd__law_is : Value} {od__law_is an__law_is : Option Addr} {sl__law_is : Array (Option Value)}
    {f__law_word : Addr} {oc__law_word kV__law_word dc__law_word pm__law_word ct__law_word cd__law_word : Value} {od__law_word an__law_word : Option Addr} {sl__law_word : Array (Option Value)}
    {f__law_code : Addr} {oc__law_code kV__law_code dc__law_code pm__law_code ct__law_code cd__law_code : Value} {od__law_code an__law_code : Option Addr} {sl__law_code : Array (Option Value)}
    {f__law_image : Addr} {oc__law_image kV__law_image dc__law_image pm__law_image ct__law_image cd__law_image : Value} {od__law_image an__law_image : Option Addr} {sl__law_image : Array (Option Value)}
    {f__law_backs : Addr} {oc__law_backs kV__law_backs dc__law_backs pm__law_backs ct__law_backs cd__law_backs : Value} {od__law_backs an__law_backs : Option Addr} {sl__law_backs : Array (Option Value)}
    {f__law_is_two : Addr} {oc__law_is_two kV__law_is_two dc__law_is_two pm__law_is_two ct__law_is_two cd__law_is_two : Value} {od__law_is_two an__law_is_two : Option Addr} {sl__law_is_two : Array (Option Value)}
    {f__law_sure_right : Addr} {oc__law_sure_right kV__law_sure_right dc__law_sure_right pm__law_sure_right ct__law_sure_right cd__law_sure_right : Value} {od__law_sure_right an__law_sure_right : Option Addr} {sl__law_sure_right : Array (Option Value)}
    {f__law_case_right : Addr} {oc__law_case_right kV__law_case_right dc__law_case_right pm__law_case_right ct__law_case_right : Value} {od__law_case_right an__law_case_right : Option Addr} {sl__law_case_right : Array (Option Value)}
    {cx__law_case_right P__law_case_right : Addr} {cdd__law_case_right : Option Addr} {vs__law_case_right : Array Value} {csl__law_case_right : Array (Option Value)}
    {f_law : Addr} {oc_law kV_law dc_law pm_law ct_law : Value} {od_law an_law : Option Addr} {sl_law : Array (Option Value)}
    {cx_law P_law : Addr} {cdd_law : Option Addr} {vs_law : Array Value} {csl_law : Array (Option Value)}
    {tk_LETTERS : Tok}
    {tk_MOST_PUT : Tok}
    {tk_MOST_READ : Tok}
    {tk_MOST_WORD : Tok}
    {tk_SURE : Tok}
    {tk_TWO : Tok}
    {e_NoCode : Addr}
    {e_NoWord : Addr}
    {e_SayError : Addr}
    (a_is_sized : PySem.W.nsIn K mainGlobals "is_sized" = some (some (.ref f_is_sized)))
    (l_is_sized : K.lookup f_is_sized = some ⟨oc_is_sized, od_is_sized, .func (PySem.W.fnOf "is_sized" "is_sized" (defArgs s_is_sized) (defBody s_is_sized) (defScope s_is_sized) .none kV_is_sized dc_is_sized pm_is_sized an_is_sized cd_is_sized ct_is_sized), sl_is_sized⟩)
    (c_is_sized : PySem.W.codeIn K cd_is_sized "is_sized" = true)
    (k_is_sized : PySem.W.keepIn K (.ref f_is_sized) = true)
    (a_is_letters : PySem.W.nsIn K mainGlobals "is_letters" = some (some (.ref f_is_letters)))
    (l_is_letters : K.lookup f_is_letters = some ⟨oc_is_letters, od_is_letters, .func (PySem.W.fnOf "is_letters" "is_letters" (defArgs s_is_letters) (defBody s_is_letters) (defScope s_is_letters) .none kV_is_letters dc_is_letters pm_is_letters an_is_letters cd_is_letters ct_is_letters), sl_is_letters⟩)
    (c_is_letters : PySem.W.codeIn K cd_is_letters "is_letters" = true)
    (k_is_letters : PySem.W.keepIn K (.ref f_is_letters) = true)
    (a_check_word : PySem.W.nsIn K mainGlobals "check_word" = some (some (.ref f_check_word)))
    (l_check_word : K.lookup f_check_word = some ⟨oc_check_word, od_check_word, .func (PySem.W.fnOf "check_word" "check_word" (defArgs s_check_word) (defBody s_check_word) (defScope s_check_word) .none kV_check_word dc_check_word pm_check_word an_check_word cd_check_word ct_check_word), sl_check_word⟩)
    (c_check_word : PySem.W.codeIn K cd_check_word "check_word" = true)
    (k_check_word : PySem.W.keepIn K (.ref f_check_word) = true)
    (a_is_code : PySem.W.nsIn K mainGlobals "is_code" = some (some (.ref f_is_code)))
    (l_is_code : K.lookup f_is_code = some ⟨oc_is_code, od_is_code, .func (PySem.W.fnOf "is_code" "is_code" (defArgs s_is_code) (defBody s_is_code) (defScope s_is_code) .none kV_is_code dc_is_code pm_is_code an_is_code cd_is_code ct_is_code), sl_is_code⟩)
    (c_is_code : PySem.W.codeIn K cd_is_code "is_code" = true)
    (k_is_code : PySem.W.keepIn K (.ref f_is_code) = true)
    (a_check_code : PySem.W.nsIn K mainGlobals "check_code" = some (some (.ref f_check_code)))
    (l_check_code : K.lookup f_check_code = some ⟨oc_check_code, od_check_code, .func (PySem.W.fnOf "check_code" "check_code" (defArgs s_check_code) (defBody s_check_code) (defScope s_check_code) .none kV_check_code dc_check_code pm_check_code an_check_code cd_check_code ct_check_code), sl_check_code⟩)
    (c_check_code : PySem.W.codeIn K cd_check_code "check_code" = true)
    (k_check_code : PySem.W.keepIn K (.ref f_check_code) = true)
    (a_raw_image : PySem.W.nsIn K mainGlobals "raw_image" = some (some (.ref f_raw_image)))
    (l_raw_image : K.lookup f_raw_image = some ⟨oc_raw_image, od_raw_image, .func (PySem.W.fnOf "raw_image" "raw_image" (defArgs s_raw_image) (defBody s_raw_image) (defScope s_raw_image) .none kV_raw_image dc_raw_image pm_raw_image an_raw_image cd_raw_image ct_raw_image), sl_raw_image⟩)
    (c_raw_image : PySem.W.codeIn K cd_raw_image "raw_image" = true)
    (k_raw_image : PySem.W.keepIn K (.ref f_raw_image) = true)
    (a_image : PySem.W.nsIn K mainGlobals "image" = some (some (.ref f_image)))
    (l_image : K.lookup f_image = some ⟨oc_image, od_image, .func (PySem.W.fnOf "image" "image" (defArgs s_image) (defBody s_image) (defScope s_image) .none kV_image dc_image pm_image an_image cd_image ct_image), sl_image⟩)
    (c_image : PySem.W.codeIn K cd_image "image" = true)
    (k_image : PySem.W.keepIn K (.ref f_image) = true)
    (a_counts_back : PySem.W.nsIn K mainGlobals "counts_back" = some (some (.ref f_counts_back)))
    (l_counts_back : K.lookup f_counts_back = some ⟨oc_counts_back, od_counts_back, .func (PySem.W.fnOf "counts_back" "counts_back" (defArgs s_counts_back) (defBody s_counts_back) (defScope s_counts_back) .none kV_counts_back dc_counts_back pm_counts_back an_counts_back cd_counts_back ct_counts_back), sl_counts_back⟩)
    (c_counts_back : PySem.W.codeIn K cd_counts_back "counts_back" = true)
    (k_counts_back : PySem.W.keepIn K (.ref f_counts_back) = true)
    (a_many_back : PySem.W.nsIn K mainGlobals "many_back" = some (some (.ref f_many_back)))
    (l_many_back : K.lookup f_many_back = some ⟨oc_many_back, od_many_back, .func (PySem.W.fnOf "many_back" "many_back" (defArgs s_many_back) (defBody s_many_back) (defScope s_many_back) .none kV_many_back dc_many_back pm_many_back an_many_back cd_many_back ct_many_back), sl_many_back⟩)
    (c_many_back : PySem.W.codeIn K cd_many_back "many_back" = true)
    (k_many_back : PySem.W.keepIn K (.ref f_many_back) = true)
    (a_read_back : PySem.W.nsIn K mainGlobals "read_back" = some (some (.ref f_read_back)))
    (l_read_back : K.lookup f_read_back = some ⟨oc_read_back, od_read_back, .func (PySem.W.fnOf "read_back" "read_back" (defArgs s_read_back) (defBody s_read_back) (defScope s_read_back) .none kV_read_back dc_read_back pm_read_back an_read_back cd_read_back ct_read_back), sl_read_back⟩)
    (c_read_back : PySem.W.codeIn K cd_read_back "read_back" = true)
    (k_read_back : PySem.W.keepIn K (.ref f_read_back) = true)
    (a_raw_sure : PySem.W.nsIn K mainGlobals "raw_sure" = some (some (.ref f_raw_sure)))
    (l_raw_sure : K.lookup f_raw_sure = some ⟨oc_raw_sure, od_raw_sure, .func (PySem.W.fnOf "raw_sure" "raw_sure" (defArgs s_raw_sure) (defBody s_raw_sure) (defScope s_raw_sure) .none kV_raw_sure dc_raw_sure pm_raw_sure an_raw_sure cd_raw_sure ct_raw_sure), sl_raw_sure⟩)
    (c_raw_sure : PySem.W.codeIn K cd_raw_sure "raw_sure" = true)
    (k_raw_sure : PySem.W.keepIn K (.ref f_raw_sure) = true)
    (a_sure_told : PySem.W.nsIn K mainGlobals "sure_told" = some (some (.ref f_sure_told)))
    (l_sure_told : K.lookup f_sure_told = some ⟨oc_sure_told, od_sure_told, .func (PySem.W.fnOf "sure_told" "sure_told" (defArgs s_sure_told) (defBody s_sure_told) (defScope s_sure_told) .none kV_sure_told dc_sure_told pm_sure_told an_sure_told cd_sure_told ct_sure_told), sl_sure_told⟩)
    (c_sure_told : PySem.W.codeIn K cd_sure_told "sure_told" = true)
    (k_sure_told : PySem.W.keepIn K (.ref f_sure_told) = true)
    (a_is_sure_told : PySem.W.nsIn K mainGlobals "is_sure_told" = some (some (.ref f_is_sure_told)))
    (l_is_sure_told : K.lookup f_is_sure_told = some ⟨oc_is_sure_told, od_is_sure_told, .func (PySem.W.fnOf "is_sure_told" "is_sure_told" (defArgs s_is_sure_told) (defBody s_is_sure_told) (defScope s_is_sure_told) .none kV_is_sure_told dc_is_sure_told pm_is_sure_told an_is_sure_told cd_is_sure_told ct_is_sure_told), sl_is_sure_told⟩)
    (c_is_sure_told : PySem.W.codeIn K cd_is_sure_told "is_sure_told" = true)
    (k_is_sure_told : PySem.W.keepIn K (.ref f_is_sure_told) = true)
    (a_joined_codes : PySem.W.nsIn K mainGlobals "joined_codes" = some (some (.ref f_joined_codes)))
    (l_joined_codes : K.lookup f_joined_codes = some ⟨oc_joined_codes, od_joined_codes, .func (PySem.W.fnOf "joined_codes" "joined_codes" (defArgs s_joined_codes) (defBody s_joined_codes) (defScope s_joined_codes) .none kV_joined_codes dc_joined_codes pm_joined_codes an_joined_codes cd_joined_codes ct_joined_codes), sl_joined_codes⟩)
    (c_joined_codes : PySem.W.codeIn K cd_joined_codes "joined_codes" = true)
    (k_joined_codes : PySem.W.keepIn K (.ref f_joined_codes) = true)
    (a_begins_alike : PySem.W.nsIn K mainGlobals "begins_alike" = some (some (.ref f_begins_alike)))
    (l_begins_alike : K.lookup f_begins_alike = some ⟨oc_begins_alike, od_begins_alike, .func (PySem.W.fnOf "begins_alike" "begins_alike" (defArgs s_begins_alike) (defBody s_begins_alike) (defScope s_begins_alike) .none kV_begins_alike dc_begins_alike pm_begins_alike an_begins_alike cd_begins_alike ct_begins_alike), sl_begins_alike⟩)
    (c_begins_alike : PySem.W.codeIn K cd_begins_alike "begins_alike" = true)
    (k_begins_alike : PySem.W.keepIn K (.ref f_begins_alike) = true)
    (a_told_at_once : PySem.W.nsIn K mainGlobals "told_at_once" = some (some (.ref f_told_at_once)))
    (l_told_at_once : K.lookup f_told_at_once = some ⟨oc_told_at_once, od_told_at_once, .func (PySem.W.fnOf "told_at_once" "told_at_once" (defArgs s_told_at_once) (defBody s_told_at_once) (defScope s_told_at_once) .none kV_told_at_once dc_told_at_once pm_told_at_once an_told_at_once cd_told_at_once ct_told_at_once), sl_told_at_once⟩)
    (c_told_at_once : PySem.W.codeIn K cd_told_at_once "told_at_once" = true)
    (k_told_at_once : PySem.W.keepIn K (.ref f_told_at_once) = true)
    (a__law_hand : PySem.W.nsIn K mainGlobals "_law_hand" = some (some (.ref f__law_hand)))
    (l__law_hand : K.lookup f__law_hand = some ⟨oc__law_hand, od__law_hand, .func (PySem.W.fnOf "_law_hand" "_law_hand" (defArgs s__law_hand) (defBody s__law_hand) (defScope s__law_hand) .none kV__law_hand dc__law_hand pm__law_hand an__law_hand cd__law_hand ct__law_hand), sl__law_hand⟩)
    (c__law_hand : PySem.W.codeIn K cd__law_hand "_law_hand" = true)
    (k__law_hand : PySem.W.keepIn K (.ref f__law_hand) = true)
    (a__law_draw : PySem.W.nsIn K mainGlobals "_law_draw" = some (some (.ref f__law_draw)))
    (l__law_draw : K.lookup f__law_draw = some ⟨oc__law_draw, od__law_draw, .func (PySem.W.fnOf "_law_draw" "_law_draw" (defArgs s__law_draw) (defBody s__law_draw) (defScope s__law_draw) .none kV__law_draw dc__law_draw pm__law_draw an__law_draw cd__law_draw ct__law_draw), sl__law_draw⟩)
    (c__law_draw : PySem.W.codeIn K cd__law_draw "_law_draw" = true)
    (k__law_draw : PySem.W.keepIn K (.ref f__law_draw) = true)
    (a__law_any : PySem.W.nsIn K mainGlobals "_law_any" = some (some (.ref f__law_any)))
    (l__law_any : K.lookup f__law_any = some ⟨oc__law_any, od__law_any, .func (PySem.W.fnOf "_law_any" "_law_any" (defArgs s__law_any) (defBody s__law_any) (defScope s__law_any) .none kV__law_any dc__law_any pm__law_any an__law_any cd__law_any ct__law_any), sl__law_any⟩)
    (c__law_any : PySem.W.codeIn K cd__law_any "_law_any" = true)
    (k__law_any : PySem.W.keepIn K (.ref f__law_any) = true)
    (a__law_is : PySem.W.nsIn K mainGlobals "_law_is" = some (some (.ref f__law_is)))
    (l__law_is : K.lookup f__law_is = some ⟨oc__law_is, od__law_is, .func (PySem.W.fnOf "_law_is" "_law_is" (defArgs s__law_is) (defBody s__law_is) (defScope s__law_is) .none kV__law_is dc__law_is pm__law_is an__law_is cd__law_is ct__law_is), sl__law_is⟩)
    (c__law_is : PySem.W.codeIn K cd__law_is "_law_is" = true)
    (k__law_is : PySem.W.keepIn K (.ref f__law_is) = true)
    (a__law_word : PySem.W.nsIn K mainGlobals "_law_word" = some (some (.ref f__law_word)))
    (l__law_word : K.lookup f__law_word = some ⟨oc__law_word, od__law_word, .func (PySem.W.fnOf "_law_word" "_law_word" (defArgs s__law_word) (defBody s__law_word) (defScope s__law_word) .none kV__law_word dc__law_word pm__law_word an__law_word cd__law_word ct__law_word), sl__law_word⟩)
    (c__law_word : PySem.W.codeIn K cd__law_word "_law_word" = true)
    (k__law_word : PySem.W.keepIn K (.ref f__law_word) = true)
    (a__law_code : PySem.W.nsIn K mainGlobals "_law_code" = some (some (.ref f__law_code)))
    (l__law_code : K.lookup f__law_code = some ⟨oc__law_code, od__law_code, .func (PySem.W.fnOf "_law_code" "_law_code" (defArgs s__law_code) (defBody s__law_code) (defScope s__law_code) .none kV__law_code dc__law_code pm__law_code an__law_code cd__law_code ct__law_code), sl__law_code⟩)
    (c__law_code : PySem.W.codeIn K cd__law_code "_law_code" = true)
    (k__law_code : PySem.W.keepIn K (.ref f__law_code) = true)
    (a__law_image : PySem.W.nsIn K mainGlobals "_law_image" = some (some (.ref f__law_image)))
    (l__law_image : K.lookup f__law_image = some ⟨oc__law_image, od__law_image, .func (PySem.W.fnOf "_law_image" "_law_image" (defArgs s__law_image) (defBody s__law_image) (defScope s__law_image) .none kV__law_image dc__law_image pm__law_image an__law_image cd__law_image ct__law_image), sl__law_image⟩)
    (c__law_image : PySem.W.codeIn K cd__law_image "_law_image" = true)
    (k__law_image : PySem.W.keepIn K (.ref f__law_image) = true)
    (a__law_backs : PySem.W.nsIn K mainGlobals "_law_backs" = some (some (.ref f__law_backs)))
    (l__law_backs : K.lookup f__law_backs = some ⟨oc__law_backs, od__law_backs, .func (PySem.W.fnOf "_law_backs" "_law_backs" (defArgs s__law_backs) (defBody s__law_backs) (defScope s__law_backs) .none kV__law_backs dc__law_backs pm__law_backs an__law_backs cd__law_backs ct__law_backs), sl__law_backs⟩)
    (c__law_backs : PySem.W.codeIn K cd__law_backs "_law_backs" = true)
    (k__law_backs : PySem.W.keepIn K (.ref f__law_backs) = true)
    (a__law_is_two : PySem.W.nsIn K mainGlobals "_law_is_two" = some (some (.ref f__law_is_two)))
    (l__law_is_two : K.lookup f__law_is_two = some ⟨oc__law_is_two, od__law_is_two, .func (PySem.W.fnOf "_law_is_two" "_law_is_two" (defArgs s__law_is_two) (defBody s__law_is_two) (defScope s__law_is_two) .none kV__law_is_two dc__law_is_two pm__law_is_two an__law_is_two cd__law_is_two ct__law_is_two), sl__law_is_two⟩)
    (c__law_is_two : PySem.W.codeIn K cd__law_is_two "_law_is_two" = true)
    (k__law_is_two : PySem.W.keepIn K (.ref f__law_is_two) = true)
    (a__law_sure_right : PySem.W.nsIn K mainGlobals "_law_sure_right" = some (some (.ref f__law_sure_right)))
    (l__law_sure_right : K.lookup f__law_sure_right = some ⟨oc__law_sure_right, od__law_sure_right, .func (PySem.W.fnOf "_law_sure_right" "_law_sure_right" (defArgs s__law_sure_right) (defBody s__law_sure_right) (defScope s__law_sure_right) .none kV__law_sure_right dc__law_sure_right pm__law_sure_right an__law_sure_right cd__law_sure_right ct__law_sure_right), sl__law_sure_right⟩)
    (c__law_sure_right : PySem.W.codeIn K cd__law_sure_right "_law_sure_right" = true)
    (k__law_sure_right : PySem.W.keepIn K (.ref f__law_sure_right) = true)
    (a__law_case_right : PySem.W.nsIn K mainGlobals "_law_case_right" = some (some (.ref f__law_case_right)))
    (l__law_case_right : K.lookup f__law_case_right = some ⟨oc__law_case_right, od__law_case_right, .func (PySem.W.fnOf "_law_case_right" "_law_case_right" (defArgs s__law_case_right) (defBody s__law_case_right) (defScope s__law_case_right) .none kV__law_case_right dc__law_case_right pm__law_case_right an__law_case_right (.ref cx__law_case_right) ct__law_case_right), sl__law_case_right⟩)
    (c__law_case_right : PySem.W.codeIn K (.ref cx__law_case_right) "_law_case_right" = true)
    (k__law_case_right : PySem.W.keepIn K (.ref f__law_case_right) = true)
    (o__law_case_right : K.lookup cx__law_case_right = some ⟨.type "code", cdd__law_case_right, .fields vs__law_case_right, csl__law_case_right⟩)
    (v__law_case_right : ∃ file tf flags tg inF text tt, vs__law_case_right[11]? = some (.ref P__law_case_right) ∧ vs__law_case_right.getD 11 .none = .ref P__law_case_right ∧ vs__law_case_right.getD 18 .none = .str file tf ∧ vs__law_case_right.getD 7 .none = .int flags tg ∧ vs__law_case_right.getD 9 .none = .bool inF ∧ vs__law_case_right.getD 10 .none = .int text tt)
    (n__law_case_right : K.lookup P__law_case_right = none)
    (d__law_case_right : cx__law_case_right ≠ P__law_case_right)
    (t__law_case_right : h.get? P__law_case_right = some (PySem.W.tabObj #[]))
    (a_law : PySem.W.nsIn K mainGlobals "law" = some (some (.ref f_law)))
    (l_law : K.lookup f_law = some ⟨oc_law, od_law, .func (PySem.W.fnOf "law" "law" (defArgs s_law) (defBody s_law) (defScope s_law) .none kV_law dc_law pm_law an_law (.ref cx_law) ct_law), sl_law⟩)
    (c_law : PySem.W.codeIn K (.ref cx_law) "law" = true)
    (k_law : PySem.W.keepIn K (.ref f_law) = true)
    (o_law : K.lookup cx_law = some ⟨.type "code", cdd_law, .fields vs_law, csl_law⟩)
    (v_law : ∃ file tf flags tg inF text tt, vs_law[11]? = some (.ref P_law) ∧ vs_law.getD 11 .none = .ref P_law ∧ vs_law.getD 18 .none = .str file tf ∧ vs_law.getD 7 .none = .int flags tg ∧ vs_law.getD 9 .none = .bool inF ∧ vs_law.getD 10 .none = .int text tt)
    (n_law : K.lookup P_law = none)
    (d_law : cx_law ≠ P_law)
    (t_law : h.get? P_law = some (PySem.W.tabObj #[]))
    (ne__law_case_right_law : P__law_case_right ≠ P_law)
    (b_ValueError : PySem.W.nsIn K mainGlobals "ValueError" = some none)
    (b_abs : PySem.W.nsIn K mainGlobals "abs" = some none)
    (b_all : PySem.W.nsIn K mainGlobals "all" = some none)
    (b_bool : PySem.W.nsIn K mainGlobals "bool" = some none)
    (b_int : PySem.W.nsIn K mainGlobals "int" = some none)
    (b_isinstance : PySem.W.nsIn K mainGlobals "isinstance" = some none)
    (b_len : PySem.W.nsIn K mainGlobals "len" = some none)
    (b_list : PySem.W.nsIn K mainGlobals "list" = some none)
    (b_max : PySem.W.nsIn K mainGlobals "max" = some none)
    (b_min : PySem.W.nsIn K mainGlobals "min" = some none)
    (b_range : PySem.W.nsIn K mainGlobals "range" = some none)
    (b_sorted : PySem.W.nsIn K mainGlobals "sorted" = some none)
    (b_str : PySem.W.nsIn K mainGlobals "str" = some none)
    (b_tuple : PySem.W.nsIn K mainGlobals "tuple" = some none)
    (b_zip : PySem.W.nsIn K mainGlobals "zip" = some none)
    (q_LETTERS : PySem.W.nsIn K mainGlobals "LETTERS" = some (some (.str "ab" tk_LETTERS)))
    (q_MOST_PUT : PySem.W.nsIn K mainGlobals "MOST_PUT" = some (some (.int 4 tk_MOST_PUT)))
    (q_MOST_READ : PySem.W.nsIn K mainGlobals "MOST_READ" = some (some (.int 40 tk_MOST_READ)))
    (q_MOST_WORD : PySem.W.nsIn K mainGlobals "MOST_WORD" = some (some (.int 12 tk_MOST_WORD)))
    (q_SURE : PySem.W.nsIn K mainGlobals "SURE" = some (some (.str "sure" tk_SURE)))
    (q_TWO : PySem.W.nsIn K mainGlobals "TWO" = some (some (.str "two" tk_TWO)))
    (e0_NoCode : PySem.W.nsIn K mainGlobals "NoCode" = some (some (.ref e_NoCode)))
    (e0_NoWord : PySem.W.nsIn K mainGlobals "NoWord" = some (some (.ref e_NoWord)))
    (e0_SayError : PySem.W.nsIn K mainGlobals "SayError" = some (some (.ref e_SayError)))
    (e2_NoCode : PySem.W.subIn K (.ref e_NoCode) (.type "BaseException") = some true)
    (e3_NoCode : PySem.W.typeIn K (.ref e_NoCode) = some (.type "type"))
    (e4_NoCode : PySem.W.hasDictIn K e_NoCode = true)
    (e1_NoCode : PySem.W.keepIn K (.ref e_NoCode) = true)
    (e5_NoCode : PySem.W.excIn K e_NoCode [.type "ValueError", .type "Exception", .type "BaseException", .type "object"] "ValueError.__new__" = true)
    (e6_NoCode : ExcC K e_NoCode)
    (e7_NoCode : PySem.W.subIn K (.ref e_NoCode) (.ref e_SayError) = some true)
    (e8_NoCode : PySem.W.kitOne K (.ref e_NoCode) (.type "ValueError") = some true)
    (e9_NoCode_NoCode : PySem.W.kitOne K (.ref e_NoCode) (.ref e_NoCode) = some true)
    (e9_NoCode_NoWord : PySem.W.kitOne K (.ref e_NoCode) (.ref e_NoWord) = some false)
    (e2_NoWord : PySem.W.subIn K (.ref e_NoWord) (.type "BaseException") = some true)
    (e3_NoWord : PySem.W.typeIn K (.ref e_NoWord) = some (.type "type"))
    (e4_NoWord : PySem.W.hasDictIn K e_NoWord = true)
    (e1_NoWord : PySem.W.keepIn K (.ref e_NoWord) = true)
    (e5_NoWord : PySem.W.excIn K e_NoWord [.type "ValueError", .type "Exception", .type "BaseException", .type "object"] "ValueError.__new__" = true)
    (e6_NoWord : ExcC K e_NoWord)
    (e7_NoWord : PySem.W.subIn K (.ref e_NoWord) (.ref e_SayError) = some true)
    (e8_NoWord : PySem.W.kitOne K (.ref e_NoWord) (.type "ValueError") = some true)
    (e9_NoWord_NoCode : PySem.W.kitOne K (.ref e_NoWord) (.ref e_NoCode) = some false)
    (e9_NoWord_NoWord : PySem.W.kitOne K (.ref e_NoWord) (.ref e_NoWord) = some true)
    (e2_SayError : PySem.W.subIn K (.ref e_SayError) (.type "BaseException") = some true)
    (e3_SayError : PySem.W.typeIn K (.ref e_SayError) = some (.type "type"))
    (e4_SayError : PySem.W.hasDictIn K e_SayError = true) : Txt K mg :=
  { a_is_sized := f_is_sized,
    d_is_sized := _,
    F_is_sized := fun_mk (st := s_is_sized) l_is_sized c_is_sized k_is_sized,
    g_is_sized := PySem.W.mg_of X G a_is_sized,
    a_is_letters := f_is_letters,
    d_is_letters := _,
    F_is_letters := fun_mk (st := s_is_letters) l_is_letters c_is_letters k_is_letters,
    g_is_letters := PySem.W.mg_of X G a_is_letters,
    a_check_word := f_check_word,
    d_check_word := _,
    F_check_word := fun_mk (st := s_check_word) l_check_word c_check_word k_check_word,
    g_check_word := PySem.W.mg_of X G a_check_word,
    a_is_code := f_is_code,
    d_is_code := _,
    F_is_code := fun_mk (st := s_is_code) l_is_code c_is_code k_is_code,
    g_is_code := PySem.W.mg_of X G a_is_code,
    a_check_code := f_check_code,
    d_check_code := _,
    F_check_code := fun_mk (st := s_check_code) l_check_code c_check_code k_check_code,
    g_check_code := PySem.W.mg_of X G a_check_code,
    a_raw_image := f_raw_image,
    d_raw_image := _,
    F_raw_image := fun_mk (st := s_raw_image) l_raw_image c_raw_image k_raw_image,
    g_raw_image := PySem.W.mg_of X G a_raw_image,
    a_image := f_image,
    d_image := _,
    F_image := fun_mk (st := s_image) l_image c_image k_image,
    g_image := PySem.W.mg_of X G a_image,
    a_counts_back := f_counts_back,
    d_counts_back := _,
    F_counts_back := fun_mk (st := s_counts_back) l_counts_back c_counts_back k_counts_back,
    g_counts_back := PySem.W.mg_of X G a_counts_back,
    a_many_back := f_many_back,
    d_many_back := _,
    F_many_back := fun_mk (st := s_many_back) l_many_back c_many_back k_many_back,
    g_many_back := PySem.W.mg_of X G a_many_back,
    a_read_back := f_read_back,
    d_read_back := _,
    F_read_back := fun_mk (st := s_read_back) l_read_back c_read_back k_read_back,
    g_read_back := PySem.W.mg_of X G a_read_back,
    a_raw_sure := f_raw_sure,
    d_raw_sure := _,
    F_raw_sure := fun_mk (st := s_raw_sure) l_raw_sure c_raw_sure k_raw_sure,
    g_raw_sure := PySem.W.mg_of X G a_raw_sure,
    a_sure_told := f_sure_told,
    d_sure_told := _,
    F_sure_told := fun_mk (st := s_sure_told) l_sure_told c_sure_told k_sure_told,
    g_sure_told := PySem.W.mg_of X G a_sure_told,
    a_is_sure_told := f_is_sure_told,
    d_is_sure_told := _,
    F_is_sure_told := fun_mk (st := s_is_sure_told) l_is_sure_told c_is_sure_told k_is_sure_told,
    g_is_sure_told := PySem.W.mg_of X G a_is_sure_told,
    a_joined_codes := f_joined_codes,
    d_joined_codes := _,
    F_joined_codes := fun_mk (st := s_joined_codes) l_joined_codes c_joined_codes k_joined_codes,
    g_joined_codes := PySem.W.mg_of X G a_joined_codes,
    a_begins_alike := f_begins_alike,
    d_begins_alike := _,
    F_begins_alike := fun_mk (st := s_begins_alike) l_begins_alike c_begins_alike k_begins_alike,
    g_begins_alike := PySem.W.mg_of X G a_begins_alike,
    a_told_at_once := f_told_at_once,
    d_told_at_once := _,
    F_told_at_once := fun_mk (st := s_told_at_once) l_told_at_once c_told_at_once k_told_at_once,
    g_told_at_once := PySem.W.mg_of X G a_told_at_once,
    a__law_hand := f__law_hand,
    d__law_hand := _,
    F__law_hand := fun_mk (st := s__law_hand) l__law_hand c__law_hand k__law_hand,
    g__law_hand := PySem.W.mg_of X G a__law_hand,
    a__law_draw := f__law_draw,
    d__law_draw := _,
    F__law_draw := fun_mk (st := s__law_draw) l__law_draw c__law_draw k__law_draw,
    g__law_draw := PySem.W.mg_of X G a__law_draw,
    a__law_any := f__law_any,
    d__law_any := _,
    F__law_any := fun_mk (st := s__law_any) l__law_any c__law_any k__law_any,
    g__law_any := PySem.W.mg_of X G a__law_any,
    a__law_is := f__law_is,
    d__law_is := _,
    F__law_is := fun_mk (st := s__law_is) l__law_is c__law_is k__law_is,
    g__law_is := PySem.W.mg_of X G a__law_is,
    a__law_word := f__law_word,
    d__law_word := _,
    F__law_word := fun_mk (st := s__law_word) l__law_word c__law_word k__law_word,
    g__law_word := PySem.W.mg_of X G a__law_word,
    a__law_code := f__law_code,
    d__law_code := _,
    F__law_code := fun_mk (st := s__law_code) l__law_code c__law_code k__law_code,
    g__law_code := PySem.W.mg_of X G a__law_code,
    a__law_image := f__law_image,
    d__law_image := _,
    F__law_image := fun_mk (st := s__law_image) l__law_image c__law_image k__law_image,
    g__law_image := PySem.W.mg_of X G a__law_image,
    a__law_backs := f__law_backs,
    d__law_backs := _,
    F__law_backs := fun_mk (st := s__law_backs) l__law_backs c__law_backs k__law_backs,
    g__law_backs := PySem.W.mg_of X G a__law_backs,
    a__law_is_two := f__law_is_two,
    d__law_is_two := _,
    F__law_is_two := fun_mk (st := s__law_is_two) l__law_is_two c__law_is_two k__law_is_two,
    g__law_is_two := PySem.W.mg_of X G a__law_is_two,
    a__law_sure_right := f__law_sure_right,
    d__law_sure_right := _,
    F__law_sure_right := fun_mk (st := s__law_sure_right) l__law_sure_right c__law_sure_right k__law_sure_right,
    g__law_sure_right := PySem.W.mg_of X G a__law_sure_right,
    cd__law_case_right := cx__law_case_right,
    tb__law_case_right := P__law_case_right,
    a__law_case_right := f__law_case_right,
    d__law_case_right := _,
    F__law_case_right := fun_mk (st := s__law_case_right) l__law_case_right c__law_case_right k__law_case_right,
    g__law_case_right := PySem.W.mg_of X G a__law_case_right,
    cd_law := cx_law,
    tb_law := P_law,
    a_law := f_law,
    d_law := _,
    F_law := fun_mk (st := s_law) l_law c_law k_law,
    g_law := PySem.W.mg_of X G a_law,
    k__law_case_right := rfl,
    k_law := rfl,
    n_ValueError := PySem.W.mg_none_of X G b_ValueError,
    n_abs := PySem.W.mg_none_of X G b_abs,
    n_all := PySem.W.mg_none_of X G b_all,
    n_bool := PySem.W.mg_none_of X G b_bool,
    n_int := PySem.W.mg_none_of X G b_int,
    n_isinstance := PySem.W.mg_none_of X G b_isinstance,
    n_len := PySem.W.mg_none_of X G b_len,
    n_list := PySem.W.mg_none_of X G b_list,
    n_max := PySem.W.mg_none_of X G b_max,
    n_min := PySem.W.mg_none_of X G b_min,
    n_range := PySem.W.mg_none_of X G b_range,
    n_sorted := PySem.W.mg_none_of X G b_sorted,
    n_str := PySem.W.mg_none_of X G b_str,
    n_tuple := PySem.W.mg_none_of X G b_tuple,
    n_zip := PySem.W.mg_none_of X G b_zip,
    c_LETTERS := ⟨⟨.str ⟨([97, 98] : List Nat).toArray⟩, _, PySem.W.mg_of X G q_LETTERS, ⟨_, congrArg (fun z => Value.str z _) (by decide +kernel)⟩, fun _ _ => .str _⟩⟩,
    c_MOST_PUT := ⟨⟨.int 4, _, PySem.W.mg_of X G q_MOST_PUT, ⟨_, rfl⟩, fun _ _ => .int _⟩⟩,
    c_MOST_READ := ⟨⟨.int 40, _, PySem.W.mg_of X G q_MOST_READ, ⟨_, rfl⟩, fun _ _ => .int _⟩⟩,
    c_MOST_WORD := ⟨⟨.int 12, _, PySem.W.mg_of X G q_MOST_WORD, ⟨_, rfl⟩, fun _ _ => .int _⟩⟩,
    c_SURE := ⟨⟨.str ⟨([115, 117, 114, 101] : List Nat).toArray⟩, _, PySem.W.mg_of X G q_SURE, ⟨_, congrArg (fun z => Value.str z _) (by decide +kernel)⟩, fun _ _ => .str _⟩⟩,
    c_TWO := ⟨⟨.str ⟨([116, 119, 111] : List Nat).toArray⟩, _, PySem.W.mg_of X G q_TWO, ⟨_, congrArg (fun z => Value.str z _) (by decide +kernel)⟩, fun _ _ => .str _⟩⟩,
    x_NoCode := ⟨⟨e_NoCode, _, _, _, _, PySem.W.mg_of X G e0_NoCode, PySem.F.excBase_ValueError, e5_NoCode, e1_NoCode, e2_NoCode, e3_NoCode⟩⟩,
    x_NoWord := ⟨⟨e_NoWord, _, _, _, _, PySem.W.mg_of X G e0_NoWord, PySem.F.excBase_ValueError, e5_NoWord, e1_NoWord, e2_NoWord, e3_NoWord⟩⟩,
    ex := { cC := e_NoCode, cW := e_NoWord, cS := e_SayError, gC := PySem.W.mg_of X G e0_NoCode, gW := PySem.W.mg_of X G e0_NoWord, gS := PySem.W.mg_of X G e0_SayError, nV := PySem.W.mg_none_of X G b_ValueError, nI := PySem.W.mg_none_of X G b_isinstance, xC := e6_NoCode, xW := e6_NoWord, kCC := e9_NoCode_NoCode, kCW := e9_NoCode_NoWord, kCV := e8_NoCode, kWC := e9_NoWord_NoCode, kWW := e9_NoWord_NoWord, kWV := e8_NoWord, eC := PySem.W.exm_ref e2_SayError e4_SayError e3_SayError e7_NoCode, eW := PySem.W.exm_ref e2_SayError e4_SayError e3_SayError e7_NoWord } }
theorem all_mk (X : K.In h) (G : h.Ns mainGlobals mg)
    {f_is_sized : Addr} {oc_is_sized kV_is_sized dc_is_sized pm_is_sized ct_is_sized cd_is_sized : Value} {od_is_sized an_is_sized : Option Addr} {sl_is_sized : Array (Option Value)}
    {f_is_letters : Addr} {oc_is_letters kV_is_letters dc_is_letters pm_is_letters ct_is_letters cd_is_letters : Value} {od_is_letters an_is_letters : Option Addr} {sl_is_letters : Array (Option Value)}
    {f_check_word : Addr} {oc_check_word kV_check_word dc_check_word pm_check_word ct_check_word cd_check_word : Value} {od_check_word an_check_word : Option Addr} {sl_check_word : Array (Option Value)}
    {f_is_code : Addr} {oc_is_code kV_is_code dc_is_code pm_is_code ct_is_code cd_is_code : Value} {od_is_code an_is_code : Option Addr} {sl_is_code : Array (Option Value)}
    {f_check_code : Addr} {oc_check_code kV_check_code dc_check_code pm_check_code ct_check_code cd_check_code : Value} {od_check_code an_check_code : Option Addr} {sl_check_code : Array (Option Value)}
    {f_raw_image : Addr} {oc_raw_image kV_raw_image dc_raw_image pm_raw_image ct_raw_image cd_raw_image : Value} {od_raw_image an_raw_image : Option Addr} {sl_raw_image : Array (Option Value)}
    {f_image : Addr} {oc_image kV_image dc_image pm_image ct_image cd_image : Value} {od_image an_image : Option Addr} {sl_image : Array (Option Value)}
    {f_counts_back : Addr} {oc_counts_back kV_counts_back dc_counts_back pm_counts_back ct_counts_back cd_counts_back : Value} {od_counts_back an_counts_back : Option Addr} {sl_counts_back : Array (Option Value)}
    {f_many_back : Addr} {oc_many_back kV_many_back dc_many_back pm_many_back ct_many_back cd_many_back : Value} {od_many_back an_many_back : Option Addr} {sl_many_back : Array (Option Value)}
    {f_read_back : Addr} {oc_read_back kV_read_back dc_read_back pm_read_back ct_read_back cd_read_back : Value} {od_read_back an_read_back : Option Addr} {sl_read_back : Array (Option Value)}
    {f_raw_sure : Addr} {oc_raw_sure kV_raw_sure dc_raw_sure pm_raw_sure ct_raw_sure cd_raw_sure : Value} {od_raw_sure an_raw_sure : Option Addr} {sl_raw_sure : Array (Option Value)}
    {f_sure_told : Addr} {oc_sure_told kV_sure_told dc_sure_told pm_sure_told ct_sure_told cd_sure_told : Value} {od_sure_told an_sure_told : Option Addr} {sl_sure_told : Array (Option Value)}
    {f_is_sure_told : Addr} {oc_is_sure_told kV_is_sure_told dc_is_sure_told pm_is_sure_told ct_is_sure_told cd_is_sure_told : Value} {od_is_sure_told an_is_sure_told : Option Addr} {sl_is_sure_told : Array (Option Value)}
    {f_joined_codes : Addr} {oc_joined_codes kV_joined_codes dc_joined_codes pm_joined_codes ct_joined_codes cd_joined_codes : Value} {od_joined_codes an_joined_codes : Option Addr} {sl_joined_codes : Array (Option Value)}
    {f_begins_alike : Addr} {oc_begins_alike kV_begins_alike dc_begins_alike pm_begins_alike ct_begins_alike cd_begins_alike : Value} {od_begins_alike an_begins_alike : Option Addr} {sl_begins_alike : Array (Option Value)}
    {f_told_at_once : Addr} {oc_told_at_once kV_told_at_once dc_told_at_once pm_told_at_once ct_told_at_once cd_told_at_once : Value} {od_told_at_once an_told_at_once : Option Addr} {sl_told_at_once : Array (Option Value)}
    {f__law_hand : Addr} {oc__law_hand kV__law_hand dc__law_hand pm__law_hand ct__law_hand cd__law_hand : Value} {od__law_hand an__law_hand : Option Addr} {sl__law_hand : Array (Option Value)}
    {f__law_draw : Addr} {oc__law_draw kV__law_draw dc__law_draw pm__law_draw ct__law_draw cd__law_draw : Value} {od__law_draw an__law_draw : Option Addr} {sl__law_draw : Array (Option Value)}
    {f__law_any : Addr} {oc__law_any kV__law_any dc__law_any pm__law_any ct__law_any cd__law_any : Value} {od__law_any an__law_any : Option Addr} {sl__law_any : Array (Option Value)}
    {f__law_is : Addr} {oc__law_is kV__law_is dc__law_is pm__law_is ct__law_is cd__law_is : Value} {od__law_is an__law_is : Option Addr} {sl__law_is : Array (Option Value)}
    {f__law_word : Addr} {oc__law_word kV__law_word dc__law_word pm__law_word ct__law_word cd__law_word : Value} {od__law_word an__law_word : Option Addr} {sl__law_word : Array (Option Value)}
    {f__law_code : Addr} {oc__law_code kV__law_code dc__law_code pm__law_code ct__law_code cd__law_code : Value} {od__law_code an__law_code : Option Addr} {sl__law_code : Array (Option Value)}
    {f__law_image : Addr} {oc__law_image kV__law_image dc__law_image pm__law_image ct__law_image cd__law_image : Value} {od__law_image an__law_image : Option Addr} {sl__law_image : Array (Option Value)}
    {f__law_backs : Addr} {oc__law_backs kV__law_backs dc__law_backs pm__law_backs ct__law_backs cd__law_backs : Value} {od__law_backs an__law_backs : Option Addr} {sl__law_backs : Array (Option Value)}
    {f__law_is_two : Addr} {oc__law_is_two kV__law_is_two dc__law_is_two pm__law_is_two ct__law_is_two cd__law_is_two : Value} {od__law_is_two an__law_is_two : Option Addr} {sl__law_is_two : Array (Option Value)}
    {f__law_sure_right : Addr} {oc__law_sure_right kV__law_sure_right dc__law_sure_right pm__law_sure_right ct__law_sure_right cd__law_sure_right : Value} {od__law_sure_right an__law_sure_right : Option Addr} {sl__law_sure_right : Array (Option Value)}
    {f__law_case_right : Addr} {oc__law_case_right kV__law_case_right dc__law_case_right pm__law_case_right ct__law_case_right : Value} {od__law_case_right an__law_case_right : Option Addr} {sl__law_case_right : Array (Option Value)}
    {cx__law_case_right P__law_case_right : Addr} {cdd__law_case_right : Option Addr} {vs__law_case_right : Array Value} {csl__law_case_right : Array (Option Value)}
    {f_law : Addr} {oc_law kV_law dc_law pm_law ct_law : Value} {od_law an_law : Option Addr} {sl_law : Array (Option Value)}
    {cx_law P_law : Addr} {cdd_law : Option Addr} {vs_law : Array Value} {csl_law : Array (Option Value)}
    {tk_LETTERS : Tok}
    {tk_MOST_PUT : Tok}
    {tk_MOST_READ : Tok}
    {tk_MOST_WORD : Tok}
    {tk_SURE : Tok}
    {tk_TWO : Tok}
    {e_NoCode : Addr}
    {e_NoWord : Addr}
    {e_SayError : Addr}
    (a_is_sized : PySem.W.nsIn K mainGlobals "is_sized" = some (some (.ref f_is_sized)))
    (l_is_sized : K.lookup f_is_sized = some ⟨oc_is_sized, od_is_sized, .func (PySem.W.fnOf "is_sized" "is_sized" (defArgs s_is_sized) (defBody s_is_sized) (defScope s_is_sized) .none kV_is_sized dc_is_sized pm_is_sized an_is_sized cd_is_sized ct_is_sized), sl_is_sized⟩)
    (c_is_sized : PySem.W.codeIn K cd_is_sized "is_sized" = true)
    (k_is_sized : PySem.W.keepIn K (.ref f_is_sized) = true)
    (a_is_letters : PySem.W.nsIn K mainGlobals "is_letters" = some (some (.ref f_is_letters)))
    (l_is_letters : K.lookup f_is_letters = some ⟨oc_is_letters, od_is_letters, .func (PySem.W.fnOf "is_letters" "is_letters" (defArgs s_is_letters) (defBody s_is_letters) (defScope s_is_letters) .none kV_is_letters dc_is_letters pm_is_letters an_is_letters cd_is_letters ct_is_letters), sl_is_letters⟩)
    (c_is_letters : PySem.W.codeIn K cd_is_letters "is_letters" = true)
    (k_is_letters : PySem.W.keepIn K (.ref f_is_letters) = true)
    (a_check_word : PySem.W.nsIn K mainGlobals "check_word" = some (some (.ref f_check_word)))
    (l_check_word : K.lookup f_check_word = some ⟨oc_check_word, od_check_word, .func (PySem.W.fnOf "check_word" "check_word" (defArgs s_check_word) (defBody s_check_word) (defScope s_check_word) .none kV_check_word dc_check_word pm_check_word an_check_word cd_check_word ct_check_word), sl_check_word⟩)
    (c_check_word : PySem.W.codeIn K cd_check_word "check_word" = true)
    (k_check_word : PySem.W.keepIn K (.ref f_check_word) = true)
    (a_is_code : PySem.W.nsIn K mainGlobals "is_code" = some (some (.ref f_is_code)))
    (l_is_code : K.lookup f_is_code = some ⟨oc_is_code, od_is_code, .func (PySem.W.fnOf "is_code" "is_code" (defArgs s_is_code) (defBody s_is_code) (defScope s_is_code) .none kV_is_code dc_is_code pm_is_code an_is_code cd_is_code ct_is_code), sl_is_code⟩)
    (c_is_code : PySem.W.codeIn K cd_is_code "is_code" = true)
    (k_is_code : PySem.W.keepIn K (.ref f_is_code) = true)
    (a_check_code : PySem.W.nsIn K mainGlobals "check_code" = some (some (.ref f_check_code)))
    (l_check_code : K.lookup f_check_code = some ⟨oc_check_code, od_check_code, .func (PySem.W.fnOf "check_code" "check_code" (defArgs s_check_code) (defBody s_check_code) (defScope s_check_code) .none kV_check_code dc_check_code pm_check_code an_check_code cd_check_code ct_check_code), sl_check_code⟩)
    (c_check_code : PySem.W.codeIn K cd_check_code "check_code" = true)
    (k_check_code : PySem.W.keepIn K (.ref f_check_code) = true)
    (a_raw_image : PySem.W.nsIn K mainGlobals "raw_image" = some (some (.ref f_raw_image)))
    (l_raw_image : K.lookup f_raw_image = some ⟨oc_raw_image, od_raw_image, .func (PySem.W.fnOf "raw_image" "raw_image" (defArgs s_raw_image) (defBody s_raw_image) (defScope s_raw_image) .none kV_raw_image dc_raw_image pm_raw_image an_raw_image cd_raw_image ct_raw_image), sl_raw_image⟩)
    (c_raw_image : PySem.W.codeIn K cd_raw_image "raw_image" = true)
    (k_raw_image : PySem.W.keepIn K (.ref f_raw_image) = true)
    (a_image : PySem.W.nsIn K mainGlobals "image" = some (some (.ref f_image)))
    (l_image : K.lookup f_image = some ⟨oc_image, od_image, .func (PySem.W.fnOf "image" "image" (defArgs s_image) (defBody s_image) (defScope s_image) .none kV_image dc_image pm_image an_image cd_image ct_image), sl_image⟩)
    (c_image : PySem.W.codeIn K cd_image "image" = true)
    (k_image : PySem.W.keepIn K (.ref f_image) = true)
    (a_counts_back : PySem.W.nsIn K mainGlobals "counts_back" = some (some (.ref f_counts_back)))
    (l_counts_back : K.lookup f_counts_back = some ⟨oc_counts_back, od_counts_back, .func (PySem.W.fnOf "counts_back" "counts_back" (defArgs s_counts_back) (defBody s_counts_back) (defScope s_counts_back) .none kV_counts_back dc_counts_back pm_counts_back an_counts_back cd_counts_back ct_counts_back), sl_counts_back⟩)
    (c_counts_back : PySem.W.codeIn K cd_counts_back "counts_back" = true)
    (k_counts_back : PySem.W.keepIn K (.ref f_counts_back) = true)
    (a_many_back : PySem.W.nsIn K mainGlobals "many_back" = some (some (.ref f_many_back)))
    (l_many_back : K.lookup f_many_back = some ⟨oc_many_back, od_many_back, .func (PySem.W.fnOf "many_back" "many_back" (defArgs s_many_back) (defBody s_many_back) (defScope s_many_back) .none kV_many_back dc_many_back pm_many_back an_many_back cd_many_back ct_many_back), sl_many_back⟩)
    (c_many_back : PySem.W.codeIn K cd_many_back "many_back" = true)
    (k_many_back : PySem.W.keepIn K (.ref f_many_back) = true)
    (a_read_back : PySem.W.nsIn K mainGlobals "read_back" = some (some (.ref f_read_back)))
    (l_read_back : K.lookup f_read_back = some ⟨oc_read_back, od_read_back, .func (PySem.W.fnOf "read_back" "read_back" (defArgs s_read_back) (defBody s_read_back) (defScope s_read_back) .none kV_read_back dc_read_back pm_read_back an_read_back cd_read_back ct_read_back), sl_read_back⟩)
    (c_read_back : PySem.W.codeIn K cd_read_back "read_back" = true)
    (k_read_back : PySem.W.keepIn K (.ref f_read_back) = true)
    (a_raw_sure : PySem.W.nsIn K mainGlobals "raw_sure" = some (some (.ref f_raw_sure)))
    (l_raw_sure : K.lookup f_raw_sure = some ⟨oc_raw_sure, od_raw_sure, .func (PySem.W.fnOf "raw_sure" "raw_sure" (defArgs s_raw_sure) (defBody s_raw_sure) (defScope s_raw_sure) .none kV_raw_sure dc_raw_sure pm_raw_sure an_raw_sure cd_raw_sure ct_raw_sure), sl_raw_sure⟩)
    (c_raw_sure : PySem.W.codeIn K cd_raw_sure "raw_sure" = true)
    (k_raw_sure : PySem.W.keepIn K (.ref f_raw_sure) = true)
    (a_sure_told : PySem.W.nsIn K mainGlobals "sure_told" = some (some (.ref f_sure_told)))
    (l_sure_told : K.lookup f_sure_told = some ⟨oc_sure_told, od_sure_told, .func (PySem.W.fnOf "sure_told" "sure_told" (defArgs s_sure_told) (defBody s_sure_told) (defScope s_sure_told) .none kV_sure_told dc_sure_told pm_sure_told an_sure_told cd_sure_told ct_sure_told), sl_sure_told⟩)
    (c_sure_told : PySem.W.codeIn K cd_sure_told "sure_told" = true)
    (k_sure_told : PySem.W.keepIn K (.ref f_sure_told) = true)
    (a_is_sure_told : PySem.W.nsIn K mainGlobals "is_sure_told" = some (some (.ref f_is_sure_told)))
    (l_is_sure_told : K.lookup f_is_sure_told = some ⟨oc_is_sure_told, od_is_sure_told, .func (PySem.W.fnOf "is_sure_told" "is_sure_told" (defArgs s_is_sure_told) (defBody s_is_sure_told) (defScope s_is_sure_told) .none kV_is_sure_told dc_is_sure_told pm_is_sure_told an_is_sure_told cd_is_sure_told ct_is_sure_told), sl_is_sure_told⟩)
    (c_is_sure_told : PySem.W.codeIn K cd_is_sure_told "is_sure_told" = true)
    (k_is_sure_told : PySem.W.keepIn K (.ref f_is_sure_told) = true)
    (a_joined_codes : PySem.W.nsIn K mainGlobals "joined_codes" = some (some (.ref f_joined_codes)))
    (l_joined_codes : K.lookup f_joined_codes = some ⟨oc_joined_codes, od_joined_codes, .func (PySem.W.fnOf "joined_codes" "joined_codes" (defArgs s_joined_codes) (defBody s_joined_codes) (defScope s_joined_codes) .none kV_joined_codes dc_joined_codes pm_joined_codes an_joined_codes cd_joined_codes ct_joined_codes), sl_joined_codes⟩)
    (c_joined_codes : PySem.W.codeIn K cd_joined_codes "joined_codes" = true)
    (k_joined_codes : PySem.W.keepIn K (.ref f_joined_codes) = true)
    (a_begins_alike : PySem.W.nsIn K mainGlobals "begins_alike" = some (some (.ref f_begins_alike)))
    (l_begins_alike : K.lookup f_begins_alike = some ⟨oc_begins_alike, od_begins_alike, .func (PySem.W.fnOf "begins_alike" "begins_alike" (defArgs s_begins_alike) (defBody s_begins_alike) (defScope s_begins_alike) .none kV_begins_alike dc_begins_alike pm_begins_alike an_begins_alike cd_begins_alike ct_begins_alike), sl_begins_alike⟩)
    (c_begins_alike : PySem.W.codeIn K cd_begins_alike "begins_alike" = true)
    (k_begins_alike : PySem.W.keepIn K (.ref f_begins_alike) = true)
    (a_told_at_once : PySem.W.nsIn K mainGlobals "told_at_once" = some (some (.ref f_told_at_once)))
    (l_told_at_once : K.lookup f_told_at_once = some ⟨oc_told_at_once, od_told_at_once, .func (PySem.W.fnOf "told_at_once" "told_at_once" (defArgs s_told_at_once) (defBody s_told_at_once) (defScope s_told_at_once) .none kV_told_at_once dc_told_at_once pm_told_at_once an_told_at_once cd_told_at_once ct_told_at_once), sl_told_at_once⟩)
    (c_told_at_once : PySem.W.codeIn K cd_told_at_once "told_at_once" = true)
    (k_told_at_once : PySem.W.keepIn K (.ref f_told_at_once) = true)
    (a__law_hand : PySem.W.nsIn K mainGlobals "_law_hand" = some (some (.ref f__law_hand)))
    (l__law_hand : K.lookup f__law_hand = some ⟨oc__law_hand, od__law_hand, .func (PySem.W.fnOf "_law_hand" "_law_hand" (defArgs s__law_hand) (defBody s__law_hand) (defScope s__law_hand) .none kV__law_hand dc__law_hand pm__law_hand an__law_hand cd__law_hand ct__law_hand), sl__law_hand⟩)
    (c__law_hand : PySem.W.codeIn K cd__law_hand "_law_hand" = true)
    (k__law_hand : PySem.W.keepIn K (.ref f__law_hand) = true)
    (a__law_draw : PySem.W.nsIn K mainGlobals "_law_draw" = some (some (.ref f__law_draw)))
    (l__law_draw : K.lookup f__law_draw = some ⟨oc__law_draw, od__law_draw, .func (PySem.W.fnOf "_law_draw" "_law_draw" (defArgs s__law_draw) (defBody s__law_draw) (defScope s__law_draw) .none kV__law_draw dc__law_draw pm__law_draw an__law_draw cd__law_draw ct__law_draw), sl__law_draw⟩)
    (c__law_draw : PySem.W.codeIn K cd__law_draw "_law_draw" = true)
    (k__law_draw : PySem.W.keepIn K (.ref f__law_draw) = true)
    (a__law_any : PySem.W.nsIn K mainGlobals "_law_any" = some (some (.ref f__law_any)))
    (l__law_any : K.lookup f__law_any = some ⟨oc__law_any, od__law_any, .func (PySem.W.fnOf "_law_any" "_law_any" (defArgs s__law_any) (defBody s__law_any) (defScope s__law_any) .none kV__law_any dc__law_any pm__law_any an__law_any cd__law_any ct__law_any), sl__law_any⟩)
    (c__law_any : PySem.W.codeIn K cd__law_any "_law_any" = true)
    (k__law_any : PySem.W.keepIn K (.ref f__law_any) = true)
    (a__law_is : PySem.W.nsIn K mainGlobals "_law_is" = some (some (.ref f__law_is)))
    (l__law_is : K.lookup f__law_is = some ⟨oc__law_is, od__law_is, .func (PySem.W.fnOf "_law_is" "_law_is" (defArgs s__law_is) (defBody s__law_is) (defScope s__law_is) .none kV__law_is dc__law_is pm__law_is an__law_is cd__law_is ct__law_is), sl__law_is⟩)
    (c__law_is : PySem.W.codeIn K cd__law_is "_law_is" = true)
    (k__law_is : PySem.W.keepIn K (.ref f__law_is) = true)
    (a__law_word : PySem.W.nsIn K mainGlobals "_law_word" = some (some (.ref f__law_word)))
    (l__law_word : K.lookup f__law_word = some ⟨oc__law_word, od__law_word, .func (PySem.W.fnOf "_law_word" "_law_word" (defArgs s__law_word) (defBody s__law_word) (defScope s__law_word) .none kV__law_word dc__law_word pm__law_word an__law_word cd__law_word ct__law_word), sl__law_word⟩)
    (c__law_word : PySem.W.codeIn K cd__law_word "_law_word" = true)
    (k__law_word : PySem.W.keepIn K (.ref f__law_word) = true)
    (a__law_code : PySem.W.nsIn K mainGlobals "_law_code" = some (some (.ref f__law_code)))
    (l__law_code : K.lookup f__law_code = some ⟨oc__law_code, od__law_code, .func (PySem.W.fnOf "_law_code" "_law_code" (defArgs s__law_code) (defBody s__law_code) (defScope s__law_code) .none kV__law_code dc__law_code pm__law_code an__law_code cd__law_code ct__law_code), sl__law_code⟩)
    (c__law_code : PySem.W.codeIn K cd__law_code "_law_code" = true)
    (k__law_code : PySem.W.keepIn K (.ref f__law_code) = true)
    (a__law_image : PySem.W.nsIn K mainGlobals "_law_image" = some (some (.ref f__law_image)))
    (l__law_image : K.lookup f__law_image = some ⟨oc__law_image, od__law_image, .func (PySem.W.fnOf "_law_image" "_law_image" (defArgs s__law_image) (defBody s__law_image) (defScope s__law_image) .none kV__law_image dc__law_image pm__law_image an__law_image cd__law_image ct__law_image), sl__law_image⟩)
    (c__law_image : PySem.W.codeIn K cd__law_image "_law_image" = true)
    (k__law_image : PySem.W.keepIn K (.ref f__law_image) = true)
    (a__law_backs : PySem.W.nsIn K mainGlobals "_law_backs" = some (some (.ref f__law_backs)))
    (l__law_backs : K.lookup f__law_backs = some ⟨oc__law_backs, od__law_backs, .func (PySem.W.fnOf "_law_backs" "_law_backs" (defArgs s__law_backs) (defBody s__law_backs) (defScope s__law_backs) .none kV__law_backs dc__law_backs pm__law_backs an__law_backs cd__law_backs ct__law_backs), sl__law_backs⟩)
    (c__law_backs : PySem.W.codeIn K cd__law_backs "_law_backs" = true)
    (k__law_backs : PySem.W.keepIn K (.ref f__law_backs) = true)
    (a__law_is_two : PySem.W.nsIn K mainGlobals "_law_is_two" = some (some (.ref f__law_is_two)))
    (l__law_is_two : K.lookup f__law_is_two = some ⟨oc__law_is_two, od__law_is_two, .func (PySem.W.fnOf "_law_is_two" "_law_is_two" (defArgs s__law_is_two) (defBody s__law_is_two) (defScope s__law_is_two) .none kV__law_is_two dc__law_is_two pm__law_is_two an__law_is_two cd__law_is_two ct__law_is_two), sl__law_is_two⟩)
    (c__law_is_two : PySem.W.codeIn K cd__law_is_two "_law_is_two" = true)
    (k__law_is_two : PySem.W.keepIn K (.ref f__law_is_two) = true)
    (a__law_sure_right : PySem.W.nsIn K mainGlobals "_law_sure_right" = some (some (.ref f__law_sure_right)))
    (l__law_sure_right : K.lookup f__law_sure_right = some ⟨oc__law_sure_right, od__law_sure_right, .func (PySem.W.fnOf "_law_sure_right" "_law_sure_right" (defArgs s__law_sure_right) (defBody s__law_sure_right) (defScope s__law_sure_right) .none kV__law_sure_right dc__law_sure_right pm__law_sure_right an__law_sure_right cd__law_sure_right ct__law_sure_right), sl__law_sure_right⟩)
    (c__law_sure_right : PySem.W.codeIn K cd__law_sure_right "_law_sure_right" = true)
    (k__law_sure_right : PySem.W.keepIn K (.ref f__law_sure_right) = true)
    (a__law_case_right : PySem.W.nsIn K mainGlobals "_law_case_right" = some (some (.ref f__law_case_right)))
    (l__law_case_right : K.lookup f__law_case_right = some ⟨oc__law_case_right, od__law_case_right, .func (PySem.W.fnOf "_law_case_right" "_law_case_right" (defArgs s__law_case_right) (defBody s__law_case_right) (defScope s__law_case_right) .none kV__law_case_right dc__law_case_right pm__law_case_right an__law_case_right (.ref cx__law_case_right) ct__law_case_right), sl__law_case_right⟩)
    (c__law_case_right : PySem.W.codeIn K (.ref cx__law_case_right) "_law_case_right" = true)
    (k__law_case_right : PySem.W.keepIn K (.ref f__law_case_right) = true)
    (o__law_case_right : K.lookup cx__law_case_right = some ⟨.type "code", cdd__law_case_right, .fields vs__law_case_right, csl__law_case_right⟩)
    (v__law_case_right : ∃ file tf flags tg inF text tt, vs__law_case_right[11]? = some (.ref P__law_case_right) ∧ vs__law_case_right.getD 11 .none = .ref P__law_case_right ∧ vs__law_case_right.getD 18 .none = .str file tf ∧ vs__law_case_right.getD 7 .none = .int flags tg ∧ vs__law_case_right.getD 9 .none = .bool inF ∧ vs__law_case_right.getD 10 .none = .int text tt)
    (n__law_case_right : K.lookup P__law_case_right = none)
    (d__law_case_right : cx__law_case_right ≠ P__law_case_right)
    (t__law_case_right : h.get? P__law_case_right = some (PySem.W.tabObj #[]))
    (a_law : PySem.W.nsIn K mainGlobals "law" = some (some (.ref f_law)))
    (l_law : K.lookup f_law = some ⟨oc_law, od_law, .func (PySem.W.fnOf "law" "law" (defArgs s_law) (defBody s_law) (defScope s_law) .none kV_law dc_law pm_law an_law (.ref cx_law) ct_law), sl_law⟩)
    (c_law : PySem.W.codeIn K (.ref cx_law) "law" = true)
    (k_law : PySem.W.keepIn K (.ref f_law) = true)
    (o_law : K.lookup cx_law = some ⟨.type "code", cdd_law, .fields vs_law, csl_law⟩)
    (v_law : ∃ file tf flags tg inF text tt, vs_law[11]? = some (.ref P_law) ∧ vs_law.getD 11 .none = .ref P_law ∧ vs_law.getD 18 .none = .str file tf ∧ vs_law.getD 7 .none = .int flags tg ∧ vs_law.getD 9 .none = .bool inF ∧ vs_law.getD 10 .none = .int text tt)
    (n_law : K.lookup P_law = none)
    (d_law : cx_law ≠ P_law)
    (t_law : h.get? P_law = some (PySem.W.tabObj #[]))
    (ne__law_case_right_law : P__law_case_right ≠ P_law)
    (b_ValueError : PySem.W.nsIn K mainGlobals "ValueError" = some none)
    (b_abs : PySem.W.nsIn K mainGlobals "abs" = some none)
    (b_all : PySem.W.nsIn K mainGlobals "all" = some none)
    (b_bool : PySem.W.nsIn K mainGlobals "bool" = some none)
    (b_int : PySem.W.nsIn K mainGlobals "int" = some none)
    (b_isinstance : PySem.W.nsIn K mainGlobals "isinstance" = some none)
    (b_len : PySem.W.nsIn K mainGlobals "len" = some none)
    (b_list : PySem.W.nsIn K mainGlobals "list" = some none)
    (b_max : PySem.W.nsIn K mainGlobals "max" = some none)
    (b_min : PySem.W.nsIn K mainGlobals "min" = some none)
    (b_range : PySem.W.nsIn K mainGlobals "range" = some none)
    (b_sorted : PySem.W.nsIn K mainGlobals "sorted" = some none)
    (b_str : PySem.W.nsIn K mainGlobals "str" = some none)
    (b_tuple : PySem.W.nsIn K mainGlobals "tuple" = some none)
    (b_zip : PySem.W.nsIn K mainGlobals "zip" = some none)
    (q_LETTERS : PySem.W.nsIn K mainGlobals "LETTERS" = some (some (.str "ab" tk_LETTERS)))
    (q_MOST_PUT : PySem.W.nsIn K mainGlobals "MOST_PUT" = some (some (.int 4 tk_MOST_PUT)))
    (q_MOST_READ : PySem.W.nsIn K mainGlobals "MOST_READ" = some (some (.int 40 tk_MOST_READ)))
    (q_MOST_WORD : PySem.W.nsIn K mainGlobals "MOST_WORD" = some (some (.int 12 tk_MOST_WORD)))
    (q_SURE : PySem.W.nsIn K mainGlobals "SURE" = some (some (.str "sure" tk_SURE)))
    (q_TWO : PySem.W.nsIn K mainGlobals "TWO" = some (some (.str "two" tk_TWO)))
    (e0_NoCode : PySem.W.nsIn K mainGlobals "NoCode" = some (some (.ref e_NoCode)))
    (e0_NoWord : PySem.W.nsIn K mainGlobals "NoWord" = some (some (.ref e_NoWord)))
    (e0_SayError : PySem.W.nsIn K mainGlobals "SayError" = some (some (.ref e_SayError)))
    (e2_NoCode : PySem.W.subIn K (.ref e_NoCode) (.type "BaseException") = some true)
    (e3_NoCode : PySem.W.typeIn K (.ref e_NoCode) = some (.type "type"))
    (e4_NoCode : PySem.W.hasDictIn K e_NoCode = true)
    (e1_NoCode : PySem.W.keepIn K (.ref e_NoCode) = true)
    (e5_NoCode : PySem.W.excIn K e_NoCode [.type "ValueError", .type "Exception", .type "BaseException", .type "object"] "ValueError.__new__" = true)
    (e6_NoCode : ExcC K e_NoCode)
    (e7_NoCode : PySem.W.subIn K (.ref e_NoCode) (.ref e_SayError) = some true)
    (e8_NoCode : PySem.W.kitOne K (.ref e_NoCode) (.type "ValueError") = some true)
    (e9_NoCode_NoCode : PySem.W.kitOne K (.ref e_NoCode) (.ref e_NoCode) = some true)
    (e9_NoCode_NoWord : PySem.W.kitOne K (.ref e_NoCode) (.ref e_NoWord) = some false)
    (e2_NoWord : PySem.W.subIn K (.ref e_NoWord) (.type "BaseException") = some true)
    (e3_NoWord : PySem.W.typeIn K (.ref e_NoWord) = some (.type "type"))
    (e4_NoWord : PySem.W.hasDictIn K e_NoWord = true)
    (e1_NoWord : PySem.W.keepIn K (.ref e_NoWord) = true)
    (e5_NoWord : PySem.W.excIn K e_NoWord [.type "ValueError", .type "Exception", .type "BaseException", .type "object"] "ValueError.__new__" = true)
    (e6_NoWord : ExcC K e_NoWord)
    (e7_NoWord : PySem.W.subIn K (.ref e_NoWord) (.ref e_SayError) = some true)
    (e8_NoWord : PySem.W.kitOne K (.ref e_NoWord) (.type "ValueError") = some true)
    (e9_NoWord_NoCode : PySem.W.kitOne K (.ref e_NoWord) (.ref e_NoCode) = some false)
    (e9_NoWord_NoWord : PySem.W.kitOne K (.ref e_NoWord) (.ref e_NoWord) = some true)
    (e2_SayError : PySem.W.subIn K (.ref e_SayError) (.type "BaseException") = some true)
    (e3_SayError : PySem.W.typeIn K (.ref e_SayError) = some (.type "type"))
    (e4_SayError : PySem.W.hasDictIn K e_SayError = true) : ∃ T : Txt K mg, mg "law" = some (.ref T.a_law) ∧ PySem.W.CodeHd h T.cd__law_case_right T.tb__law_case_right ∧ h.get? T.tb__law_case_right = some (PySem.W.tabObj #[]) ∧ K.lookup T.tb__law_case_right = none ∧ PySem.W.CodeHd h T.cd_law T.tb_law ∧ h.get? T.tb_law = some (PySem.W.tabObj #[]) ∧ K.lookup T.tb_law = none ∧ T.tb__law_case_right ≠ T.tb_law :=
  ⟨mkTxt X G a_is_sized l_is_sized c_is_sized k_is_sized a_is_letters l_is_letters c_is_letters k_is_letters a_check_word l_check_word c_check_word k_check_word a_is_code l_is_code c_is_code k_is_code a_check_code l_check_code c_check_code k_check_code a_raw_image l_raw_image c_raw_image k_raw_image a_image l_image c_image k_image a_counts_back l_counts_back c_counts_back k_counts_back a_many_back l_many_back c_many_back k_many_back a_read_back l_read_back c_read_back k_read_back a_raw_sure l_raw_sure c_raw_sure k_raw_sure a_sure_told l_sure_told c_sure_told k_sure_told a_is_sure_told l_is_sure_told c_is_sure_told k_is_sure_told a_joined_codes l_joined_codes c_joined_codes k_joined_codes a_begins_alike l_begins_alike c_begins_alike k_begins_alike a_told_at_once l_told_at_once c_told_at_once k_told_at_once a__law_hand l__law_hand c__law_hand k__law_hand a__law_draw l__law_draw c__law_draw k__law_draw a__law_any l__law_any c__law_any k__law_any a__law_is l__law_is c__law_is k__law_is a__law_word l__law_word c__law_word k__law_word a__law_code l__law_code c__law_code k__law_code a__law_image l__law_image c__law_image k__law_image a__law_backs l__law_backs c__law_backs k__law_backs a__law_is_two l__law_is_two c__law_is_two k__law_is_two a__law_sure_right l__law_sure_right c__law_sure_right k__law_sure_right a__law_case_right l__law_case_right c__law_case_right k__law_case_right o__law_case_right v__law_case_right n__law_case_right d__law_case_right t__law_case_right a_law l_law c_law k_law o_law v_law n_law d_law t_law ne__law_case_right_law b_ValueError b_abs b_all b_bool b_int b_isinstance b_len b_list b_max b_min b_range b_sorted b_str b_tuple b_zip q_LETTERS q_MOST_PUT q_MOST_READ q_MOST_WORD q_SURE q_TWO e0_NoCode e0_NoWord e0_SayError e2_NoCode e3_NoCode e4_NoCode e1_NoCode e5_NoCode e6_NoCode e7_NoCode e8_NoCode e9_NoCode_NoCode e9_NoCode_NoWord e2_NoWord e3_NoWord e4_NoWord e1_NoWord e5_NoWord e6_NoWord e7_NoWord e8_NoWord e9_NoWord_NoCode e9_NoWord_NoWord e2_SayError e3_SayError e4_SayError, PySem.W.mg_of X G a_law, (by obtain ⟨file, tf, flags, tg, inF, text, tt, w1, w2, w3, w4, w5, w6⟩ := v__law_case_right; exact ⟨_, vs__law_case_right, file, tf, flags, tg, inF, text, tt, X _ _ o__law_case_right, rfl, rfl, w1, w2, w3, w4, w5, w6, d__law_case_right⟩), t__law_case_right, n__law_case_right, (by obtain ⟨file, tf, flags, tg, inF, text, tt, w1, w2, w3, w4, w5, w6⟩ := v_law; exact ⟨_, vs_law, file, tf, flags, tg, inF, text, tt, X _ _ o_law, rfl, rfl, w1, w2, w3, w4, w5, w6, d_law⟩), t_law, n_law, ne__law_case_right_law⟩
end
end G66

set_option Elab.async false
set_option linter.all false
set_option maxRecDepth 6300
set_option maxHeartbeats 4000000
namespace G66
open PySem PySem.Spec PyProof.Rows L2 DL LamX
section
variable {P : Program} {w : World} {K : PySem.W.Frag} {mg : Str → Option Value} {base : Heap}
theorem ok_hand (T : Txt K mg) : FnOk P w K mg base (L2.CX P w) 1 T.a__law_hand T.d__law_hand ["script"] (spHand K) := by
  refine T.F__law_hand.okX sc__law_hand (fun vs H Q E h => ?_) (fun cdv A outer s H vs Q E hr h => ⟨tHand K, ?_, hand_run rfl h⟩)
  · obtain ⟨a, ns, rfl, _⟩ := h
    rfl
  · exact pss_cons (ps_setLc (i := 1) (own := [("cell", 2)]) rfl sc__law_hand.nd rfl rfl (sw_true rfl rfl rfl (by decide +kernel)) (pi_list (pe_slice sl_list (pv 0) po_none (po_some pe_int))) (blkOk_by (N := N__law_hand) (sc := defScope s__law_hand) (by decide +kernel)) (fun _ _ _ _ _ => pg_name (i := 2) sc__law_hand.nd rfl (by first | exact .inl rfl | exact .inr rfl)) (fun _ _ _ _ _ => pts_nil)
      (fun _ _ _ _ _ => pe_callB call_abs rfl T.n_abs (by decide +kernel) (pa_cons (pe_callTy call_int1 rfl T.n_int (by decide +kernel) (pa_cons (pv 2) pa_nil)) pa_nil)))
      (pss_one (ps_ret (pe_lst (pa_cons (pv 1) (pa_cons pe_int (pa_cons pe_int (pa_cons (pe_op op_add pe_int (pe_op op_mul pe_int (pe_callB call_len rfl T.n_len (by decide +kernel) (pa_cons (pv 1) pa_nil)))) (pa_cons pe_int pa_nil))))))))
def spLaw (K : PySem.W.Frag) (Ts : List (Addr × Str)) : Sp := fun vs H Q _ => ∃ (a : Addr) (ns : List Int), vs = [V.ref a] ∧ SqL K H a (ns.map V.int) ∧ ns.length ≤ 63 ∧ Tabs Ts H ∧ ∀ H', Q (.bl true) H'
/-- the frame of law behind its first statement -/
def ρ0 : En := [none, some (.val .hnd), none, none, none, none]
theorem ρ0_at {i : Nat} {x : Sl} (q : ρ0[i]? = some (some x)) : i = 1 ∧ x = .val .hnd := by
  unfold ρ0 at q
  rcases i with _ | _ | _ | _ | _ | _ | i <;> simp at q
  exact ⟨rfl, q.symm⟩
abbrev tabs66 (T : Txt K mg) : List (Addr × Str) := [(T.tb_law, q_law), (T.tb__law_case_right, q__law_case_right)]
theorem si_law {Ts : List (Addr × Str)} {H' : Hp} {a p ca : Addr} {ns : List Int} (n1 : p ≠ ca) (e1 : H' p = some (.lst [.ref ca, .int 0, .int 0, .int (97 + 13 * ((cellsOf ns).length : Nat)), .int 0])) (e2 : H' ca = some (.lst ((cellsOf ns).map V.int))) (t : Tabs Ts H') :
    SI K ⟨⟨p, []⟩, H', fun b => if b = ca then H' ca else none⟩ ρ0 (hand0 Ts ns) [some (.ref a), some (.ref p), none, none, none, none] H' (fun b => if b = ca then H' ca else none) := by
  have gc : (fun b => if b = ca then H' ca else none) ca = H' ca := if_pos rfl
  refine ⟨fun b o z => ?_, fun b o z => ?_, Le.refl _, fun _ _ _ _ h => h, fun _ h => h, fun b h => .inl h, ⟨ca, e1, ?_⟩, if_neg n1, by show H' p ≠ none; rw [e1]; simp, rfl, fun i d q => ?_, fun i ds q => ?_, fun i j di dj b q => ?_, t⟩
  · by_cases hb : b = ca
    · rw [if_pos hb] at z; rw [hb]; exact z
    · rw [if_neg hb] at z; cases z
  · by_cases hb : b = ca
    · rw [if_pos hb, e2] at z; cases z; exact nt_lst
    · rw [if_neg hb] at z; cases z
  · show (if ca = ca then H' ca else none) = _
    rw [if_pos rfl]
    exact e2
  · obtain ⟨rfl, e⟩ := ρ0_at q
    cases e
    exact ⟨_, rfl, .hnd⟩
  · cases (ρ0_at q).2
  · cases (ρ0_at q).2
theorem ok_law (T : Txt K mg) (TB : LamX.TabB base mg T.cd_law T.tb_law) (TB2 : LamX.TabB base mg T.cd__law_case_right T.tb__law_case_right)
    (plain : ∀ ns : List Int, ∃ ρ' h', B_law T.tb_law T.tb__law_case_right ρ0 (hand0 (tabs66 T) ns) = .ok (.ret (.bl true)) ρ' h') : FnOk P w K mg base C8.CX0 8 T.a_law T.d_law ["script"] (spLaw K (tabs66 T)) := by
  obtain ⟨oc, od, kV, doc, pm, an, cdv, ct, osl, e, lk, hcd⟩ := T.F_law.ex
  have hk := T.k_law
  rw [e] at hk lk ⊢
  obtain rfl : cdv = .ref T.cd_law := hk
  refine fn_of lk hcd sc_law (fun vs H Q E h => ?_) fun A outer s H vs Q E hr h => ?_
  · obtain ⟨a, ns, rfl, _⟩ := h
    rfl
  · obtain ⟨a, ns, rfl, hs, hn, ht, hq⟩ := h
    have hr' : Room 7 (cxOf C8.CX0 P w K mg base N_law "law" (defScope s_law) T.a_law (.ref T.cd_law) A outer s H E).nox.A := hr
    have d : PSs (cxOf C8.CX0 P w K mg base N_law "law" (defScope s_law) T.a_law (.ref T.cd_law) A outer s H E).nox (defBody s_law) _ := pss_cons (ps_set (i := 1) sc_law.nd rfl (by first | exact .inl rfl | exact .inr rfl) (pe_callS (X := (cxOf C8.CX0 P w K mg base N_law "law" (defScope s_law) T.a_law (.ref T.cd_law) A outer s H E).nox) (ok_hand T) (hr'.mono (by decide)) rfl T.g__law_hand T.F__law_hand.kp (bi__law_hand T) (fun σ => passAt (W := W0) L2.takes0 σ) (pa_cons (pv 0) pa_nil)))
      (dv_law T TB2 TB A outer s H E hr' PassesOwn.never)
    refine ⟨_, PSs.nox d, ?_⟩
    refine ⟨.ref a, rfl, a, ns, rfl, hs, by omega, fun p ca H' hp hca hne hle e1 e2 => ?_⟩
    obtain ⟨ρ', h', hpl⟩ := plain ns
    have I := si_law (K := K) (a := a) hne e1 e2 (ht.ext hle)
    refine ⟨_, _, _, _, I, ?_⟩
    rw [hpl]
    intro σ' H2 G2 I2 v rv
    cases rv
    exact hq H2
end
end G66

set_option Elab.async false
set_option linter.all false
set_option maxRecDepth 100000
set_option maxHeartbeats 4000000
namespace G66
open PySem DL
/-- what every step of the hand keeps -/
def HOk (T : List (Addr × Str)) (h : Hand) : Prop := 0 ≤ h.pos ∧ h.T = T
theorem sz_big : (100000 : Nat) ≤ sizeLine := by decide
theorem mod_big {i m : Int} (hm : 0 < m) : 0 ≤ i % m ∧ i % m < m := ⟨Int.emod_nonneg i (by omega), Int.emod_lt_of_pos i hm⟩
theorem mul_sm {i j : Int} (h : i.natAbs < 2 ^ 64 ∨ j.natAbs < 2 ^ 64) : mulD (.int i) (.int j) = some (.int (i * j)) := if_pos h
theorem eqI (i j : Int) : eqB (.int i) (.int j) = some (i == j) := rfl
theorem at_nn {α : Type} {l : List α} {i : Int} (h0 : 0 ≤ i) (h1 : i < l.length) : ∃ x, L2.atI l i = some x ∧ x ∈ l := by
  have hl : i.toNat < l.length := by omega
  refine ⟨l[i.toNat], ?_, List.getElem_mem hl⟩
  unfold L2.atI L2.ixN
  rw [if_pos h0, if_pos h1]
  simp [List.getElem?_eq_getElem hl]
theorem mod_ev {i m : Int} (hm : 0 < m) : modD (.int i) (.int m) = some (.int (i % m)) := if_pos hm
theorem div_ev {i m : Int} (hm : 0 < m) (h2 : m < 1073741824) : fdivD (.int i) (.int m) = some (.int (i / m)) := if_pos ⟨hm, h2⟩
theorem mul_r {i j : Int} (h : j.natAbs < 2 ^ 64) : mulD (.int i) (.int j) = some (.int (i * j)) := mul_sm (.inr h)
/-- what stands behind a draw -/
def DrawR (T : List (Addr × Str)) (m : Int) (r : RS) : Prop := ∃ d ρ h', r = .ok (.ret (.int d)) ρ h' ∧ 0 ≤ d ∧ d < m ∧ HOk T h'
theorem draw_tail {T : List (Addr × Str)} {h : Hand} {m : Int} (hm : 0 < m) (H : HOk T h) (x2 x3 x4 : Option Sl) :
    DrawR T m ((seqS (hstS 0 4 (op2 addD (handM 0 4) (pureM (.int 1))))
    (seqS (setS 2 (op2 modD (mapM1 (consM (op2 mulD (mapM1 (consM (op2 addD (handM 0 3) (op2 mulD (pureM (.int 7919)) (handM 0 4))) (pureM [])) intD) (pureM (.int 48271))) (pureM [])) intD) (pureM (.int 2147483647))))
    (seqS (setS 2 (op2 modD (mapM1 (consM (op2 mulD (nameM 2) (op2 addD (op2 fdivD (nameM 2) (pureM (.int 1009))) (pureM (.int 69621)))) (pureM [])) intD) (pureM (.int 2147483647))))
    (seqS (setS 2 (op2 modD (mapM1 (consM (op2 mulD (nameM 2) (op2 addD (op2 fdivD (nameM 2) (pureM (.int 2003))) (pureM (.int 40014)))) (pureM [])) intD) (pureM (.int 2147483563))))
    (retS (op2 modD (mapM1 (consM (op2 fdivD (nameM 2) (pureM (.int 16))) (pureM [])) intD) (nameM 1))))))) [some (.val .hnd), some (.val (.int m)), x2, x3, x4] h) := by
  have a1 : ∀ i : Int, (i % 2147483647).natAbs < 2 ^ 64 := fun i => by have := mod_big (i := i) (m := 2147483647) (by decide); omega
  simp only [bindM, RE.bind, pureM, lift, nameM, viewM, seqS, RS.seq, skipS, RE.to, setS, setLS, retS, dropS, ifS, andT, orT, notT, andV, orV, notV, ifM, valT, opB, op2, consM, mapM1, blM, callM, handM, isHnd, handGet, handSet, hstS, lstM, tupM, frzS, frzE, intD, absD, List.getElem?_cons_zero, List.getElem?_cons_succ, List.set_cons_zero, List.set_cons_succ, addD, mul_sm (Or.inl (show (7919 : Int).natAbs < 2 ^ 64 by decide)), mul_r (show (48271 : Int).natAbs < 2 ^ 64 by decide), mod_ev (show (0 : Int) < 2147483647 by decide), mod_ev (show (0 : Int) < 2147483563 by decide), div_ev (show (0 : Int) < 1009 by decide) (by decide), div_ev (show (0 : Int) < 2003 by decide) (by decide), div_ev (show (0 : Int) < 16 by decide) (by decide), mul_sm (Or.inl (a1 _)), mod_ev hm]
  exact ⟨_, _, _, rfl, (mod_big hm).1, (mod_big hm).2, H.1, H.2⟩
theorem F_draw {T : List (Addr × Str)} {h : Hand} {m : Int} (hm : 0 < m) (hm2 : m < 1000) (H : HOk T h) : ∃ d h', F__law_draw [.hnd, .int m] h = .ok (.int d) h' ∧ 0 ≤ d ∧ d < m ∧ HOk T h' := by
  have key : DrawR T m (B__law_draw [some (.val .hnd), some (.val (.int m)), none, none, none] h) := by
    unfold B__law_draw
    have rest : ∀ (h : Hand) (x2 x3 x4 : Option Sl), HOk T h → DrawR T m ((seqS (ifS (opB gtB (handM 0 2) (pureM (.int 0)))
      (seqS (setS 4 (op2 modD (mapM1 (consM (handM 0 2) (pureM [])) intD) (nameM 1)))
      (seqS (hstS 0 2 (op2 fdivD (handM 0 2) (nameM 1)))
      (retS (nameM 4))))
      (skipS)) (seqS (hstS 0 4 (op2 addD (handM 0 4) (pureM (.int 1))))
    (seqS (setS 2 (op2 modD (mapM1 (consM (op2 mulD (mapM1 (consM (op2 addD (handM 0 3) (op2 mulD (pureM (.int 7919)) (handM 0 4))) (pureM [])) intD) (pureM (.int 48271))) (pureM [])) intD) (pureM (.int 2147483647))))
    (seqS (setS 2 (op2 modD (mapM1 (consM (op2 mulD (nameM 2) (op2 addD (op2 fdivD (nameM 2) (pureM (.int 1009))) (pureM (.int 69621)))) (pureM [])) intD) (pureM (.int 2147483647))))
    (seqS (setS 2 (op2 modD (mapM1 (consM (op2 mulD (nameM 2) (op2 addD (op2 fdivD (nameM 2) (pureM (.int 2003))) (pureM (.int 40014)))) (pureM [])) intD) (pureM (.int 2147483563))))
    (retS (op2 modD (mapM1 (consM (op2 fdivD (nameM 2) (pureM (.int 16))) (pureM [])) intD) (nameM 1)))))))) [some (.val .hnd), some (.val (.int m)), x2, x3, x4] h) := by
      intro h x2 x3 x4 H
      by_cases hl : 0 < h.left
      · simp only [bindM, RE.bind, pureM, lift, nameM, viewM, seqS, RS.seq, skipS, RE.to, setS, setLS, retS, dropS, ifS, andT, orT, notT, andV, orV, notV, ifM, valT, opB, op2, consM, mapM1, blM, callM, handM, isHnd, handGet, handSet, hstS, lstM, tupM, frzS, frzE, intD, absD, List.getElem?_cons_zero, List.getElem?_cons_succ, List.set_cons_zero, List.set_cons_succ, gtB, decide_eq_true hl, if_true, mod_ev hm, div_ev hm (by omega : m < 1073741824)]
        exact ⟨_, _, _, rfl, (mod_big hm).1, (mod_big hm).2, H.1, H.2⟩
      · have e := draw_tail hm H x2 x3 x4
        have e2 : ∀ g : SM, (seqS (ifS (opB gtB (handM 0 2) (pureM (.int 0))) (seqS (setS 4 (op2 modD (mapM1 (consM (handM 0 2) (pureM [])) intD) (nameM 1))) (seqS (hstS 0 2 (op2 fdivD (handM 0 2) (nameM 1))) (retS (nameM 4)))) skipS) g) [some (.val .hnd), some (.val (.int m)), x2, x3, x4] h = g [some (.val .hnd), some (.val (.int m)), x2, x3, x4] h := fun g => by
          simp only [bindM, RE.bind, pureM, lift, nameM, viewM, seqS, RS.seq, skipS, RE.to, setS, setLS, retS, dropS, ifS, andT, orT, notT, andV, orV, notV, ifM, valT, opB, op2, consM, mapM1, blM, callM, handM, isHnd, handGet, handSet, hstS, lstM, tupM, frzS, frzE, intD, absD, List.getElem?_cons_zero, List.getElem?_cons_succ, gtB, decide_eq_false hl, if_false, Bool.false_eq_true]
        rw [e2]
        exact e
    by_cases hc : h.left = 0 ∧ h.pos < ((h.cells.map D.int).length : Nat)
    · obtain ⟨h1, h2⟩ := hc
      obtain ⟨x, ex, hx⟩ := at_nn (l := h.cells.map D.int) H.1 h2
      obtain ⟨cell, _, rfl⟩ := List.mem_map.mp hx
      have e2 : ∀ g : SM, ∃ h2, HOk T h2 ∧ (seqS (ifS (andT (opB eqB (handM 0 2) (pureM (.int 0))) (opB ltB (handM 0 1) (mapM1 (consM (handM 0 0) (pureM [])) lenD)))
          (seqS (setS 3 (op2 ixD (handM 0 0) (handM 0 1)))
          (seqS (hstS 0 1 (op2 addD (handM 0 1) (pureM (.int 1))))
          (seqS (hstS 0 3 (op2 modD (mapM1 (consM (op2 addD (op2 addD (op2 mulD (handM 0 3) (pureM (.int 69621))) (op2 mulD (nameM 3) (pureM (.int 40692)))) (pureM (.int 31))) (pureM [])) intD) (pureM (.int 2147483629))))
          (ifS (opB geB (nameM 3) (op2 powD (pureM (.int 10)) (pureM (.int 18))))
          (hstS 0 2 (nameM 3))
          (skipS)))))
          (skipS)) g) [some (.val .hnd), some (.val (.int m)), none, none, none] h = g [some (.val .hnd), some (.val (.int m)), none, some (.val (.int cell)), none] h2 := fun g => by
        have p18 : powD (.int 10) (.int 18) = some (.int 1000000000000000000) := by rfl
        by_cases hb : (1000000000000000000 : Int) ≤ cell
        · refine ⟨⟨h.cells, h.pos + 1, cell, (h.mix * 69621 + cell * 40692 + 31) % 2147483629, h.cnt, h.T⟩, ⟨by have := H.1; show 0 ≤ h.pos + 1; omega, H.2⟩, ?_⟩
          simp only [bindM, RE.bind, pureM, lift, nameM, viewM, seqS, RS.seq, skipS, RE.to, setS, setLS, retS, dropS, ifS, andT, orT, notT, andV, orV, notV, ifM, valT, opB, op2, consM, mapM1, blM, callM, handM, isHnd, handGet, handSet, hstS, lstM, tupM, frzS, frzE, intD, absD, List.getElem?_cons_zero, List.getElem?_cons_succ, List.set_cons_zero, List.set_cons_succ, eqI, ltB, lenD, h1, beq_self_eq_true, if_true, decide_eq_true h2, ixD, ex, addD, mul_r (show (69621 : Int).natAbs < 2 ^ 64 by decide), mul_r (show (40692 : Int).natAbs < 2 ^ 64 by decide), mod_ev (show (0 : Int) < 2147483629 by decide), geB, p18, decide_eq_true hb]
        · refine ⟨⟨h.cells, h.pos + 1, h.left, (h.mix * 69621 + cell * 40692 + 31) % 2147483629, h.cnt, h.T⟩, ⟨by have := H.1; show 0 ≤ h.pos + 1; omega, H.2⟩, ?_⟩
          simp only [bindM, RE.bind, pureM, lift, nameM, viewM, seqS, RS.seq, skipS, RE.to, setS, setLS, retS, dropS, ifS, andT, orT, notT, andV, orV, notV, ifM, valT, opB, op2, consM, mapM1, blM, callM, handM, isHnd, handGet, handSet, hstS, lstM, tupM, frzS, frzE, intD, absD, List.getElem?_cons_zero, List.getElem?_cons_succ, List.set_cons_zero, List.set_cons_succ, eqI, ltB, lenD, h1, beq_self_eq_true, if_true, decide_eq_true h2, ixD, ex, addD, mul_r (show (69621 : Int).natAbs < 2 ^ 64 by decide), mul_r (show (40692 : Int).natAbs < 2 ^ 64 by decide), mod_ev (show (0 : Int) < 2147483629 by decide), geB, p18, decide_eq_false hb, Bool.false_eq_true, if_false]
      obtain ⟨h2', H2, e3⟩ := e2 _
      rw [e3]
      exact rest h2' _ _ _ H2
    · have e2 : ∀ g : SM, (seqS (ifS (andT (opB eqB (handM 0 2) (pureM (.int 0))) (opB ltB (handM 0 1) (mapM1 (consM (handM 0 0) (pureM [])) lenD)))
          (seqS (setS 3 (op2 ixD (handM 0 0) (handM 0 1)))
          (seqS (hstS 0 1 (op2 addD (handM 0 1) (pureM (.int 1))))
          (seqS (hstS 0 3 (op2 modD (mapM1 (consM (op2 addD (op2 addD (op2 mulD (handM 0 3) (pureM (.int 69621))) (op2 mulD (nameM 3) (pureM (.int 40692)))) (pureM (.int 31))) (pureM [])) intD) (pureM (.int 2147483629))))
          (ifS (opB geB (nameM 3) (op2 powD (pureM (.int 10)) (pureM (.int 18))))
          (hstS 0 2 (nameM 3))
          (skipS)))))
          (skipS)) g) [some (.val .hnd), some (.val (.int m)), none, none, none] h = g [some (.val .hnd), some (.val (.int m)), none, none, none] h := fun g => by
        by_cases h1 : h.left = 0
        · have h2 : ¬ h.pos < ((h.cells.map D.int).length : Nat) := fun z => hc ⟨h1, z⟩
          simp only [bindM, RE.bind, pureM, lift, nameM, viewM, seqS, RS.seq, skipS, RE.to, setS, setLS, retS, dropS, ifS, andT, orT, notT, andV, orV, notV, ifM, valT, opB, op2, consM, mapM1, blM, callM, handM, isHnd, handGet, handSet, hstS, lstM, tupM, frzS, frzE, intD, absD, List.getElem?_cons_zero, List.getElem?_cons_succ, eqI, ltB, lenD, h1, beq_self_eq_true, if_true, decide_eq_false h2, Bool.false_eq_true, if_false]
        · have h1' : (h.left == 0) = false := by simpa using h1
          simp only [bindM, RE.bind, pureM, lift, nameM, viewM, seqS, RS.seq, skipS, RE.to, setS, setLS, retS, dropS, ifS, andT, orT, notT, andV, orV, notV, ifM, valT, opB, op2, consM, mapM1, blM, callM, handM, isHnd, handGet, handSet, hstS, lstM, tupM, frzS, frzE, intD, absD, List.getElem?_cons_zero, List.getElem?_cons_succ, eqI, h1', Bool.false_eq_true, if_false]
      rw [e2]
      exact rest h _ _ _ H
  obtain ⟨d, ρ, h', e, h1, h2, h3⟩ := key
  refine ⟨d, h', ?_, h1, h2, h3⟩
  show fnD 5 B__law_draw [.hnd, .int m] h = _
  unfold fnD
  have e0 : en0 5 [.hnd, .int m] = [some (.val .hnd), some (.val (.int m)), none, none, none] := rfl
  rw [e0, e]
theorem F_any {T : List (Addr × Str)} {h : Hand} {ds : List D} (hd : ds ≠ []) (hl : ds.length < 1000) (H : HOk T h) : ∃ d h', F__law_any [.hnd, .lst ds] h = .ok d h' ∧ d ∈ ds ∧ HOk T h' := by
  have hp : 0 < ds.length := List.length_pos_iff.mpr hd
  obtain ⟨i, h', e, h1, h2, h3⟩ := F_draw (m := (ds.length : Nat)) (by omega) (by omega) H
  obtain ⟨d, ed, md⟩ := at_nn h1 h2
  refine ⟨d, h', ?_, md, h3⟩
  show fnD 2 B__law_any [.hnd, .lst ds] h = _
  have e0 : en0 2 [.hnd, .lst ds] = [some (.val .hnd), some (.val (.lst ds))] := rfl
  unfold fnD
  rw [e0]
  unfold B__law_any
  simp only [bindM, RE.bind, pureM, lift, nameM, viewM, seqS, RS.seq, skipS, RE.to, setS, setLS, retS, dropS, ifS, andT, orT, notT, andV, orV, notV, ifM, valT, opB, op2, consM, mapM1, blM, callM, handM, isHnd, handGet, handSet, hstS, lstM, tupM, frzS, frzE, intD, absD, List.getElem?_cons_zero, List.getElem?_cons_succ, lenD, e, ixD, ed]
/-! ### comprehensions, loops -/
theorem comp_state {T : List (Addr × Str)} {g : TM} {t : EM Bool} {e : EM D} {ρ : En} (R : D → Prop) (step : ∀ d h, HOk T h → ∃ ρ1 y h', g d ρ = some ρ1 ∧ t ρ1 h = .ok true h ∧ e ρ1 h = .ok y h' ∧ R y ∧ HOk T h') :
    ∀ (ds : List D) (h : Hand), HOk T h → ∃ ys h', compL g t e ρ ds h = .ok ys h' ∧ ys.length = ds.length ∧ (∀ y ∈ ys, R y) ∧ HOk T h'
  | [], h, H => ⟨[], h, rfl, rfl, (fun y hy => nomatch hy), H⟩
  | d :: ds, h, H => by
    obtain ⟨ρ1, y, h1, e1, e2, e3, r, H1⟩ := step d h H
    obtain ⟨ys, h2, e4, l, rs, H2⟩ := comp_state R step ds h1 H1
    refine ⟨y :: ys, h2, ?_, by simp [l], fun z hz => ?_, H2⟩
    · simp only [compL, e1, e2, e3, e4, RE.bind]
    · rcases List.mem_cons.mp hz with rfl | hz
      · exact r
      · exact rs z hz
theorem comp_pure {g : TM} {t : EM Bool} {e : EM D} {ρ : En} {h : Hand} (p : D → Bool) (φ : D → D) : ∀ (ds : List D), (∀ d ∈ ds, ∃ ρ1, g d ρ = some ρ1 ∧ t ρ1 h = .ok (p d) h ∧ (p d = true → e ρ1 h = .ok (φ d) h)) → compL g t e ρ ds h = .ok ((ds.filter p).map φ) h
  | [], _ => rfl
  | d :: ds, st => by
    obtain ⟨ρ1, e1, e2, e3⟩ := st d (by simp)
    have ih := comp_pure p φ ds fun d hd => st d (by simp [hd])
    cases hp : p d with
    | true =>
      rw [hp] at e2
      simp only [compL, e1, e2, e3 hp, ih, RE.bind, List.filter_cons, hp, if_true, List.map_cons]
    | false =>
      rw [hp] at e2
      simp only [compL, e1, e2, ih, List.filter_cons, hp, Bool.false_eq_true, if_false]
theorem comp_all {g : TM} {t : EM Bool} {e : EM D} {ρ : En} {h : Hand} (φ : D → D) (ds : List D) (st : ∀ d ∈ ds, ∃ ρ1, g d ρ = some ρ1 ∧ t ρ1 h = .ok true h ∧ e ρ1 h = .ok (φ d) h) : compL g t e ρ ds h = .ok (ds.map φ) h := by
  have := comp_pure (g := g) (t := t) (e := e) (ρ := ρ) (h := h) (fun _ => true) φ ds fun d hd => by
    obtain ⟨ρ1, e1, e2, e3⟩ := st d hd
    exact ⟨ρ1, e1, e2, fun _ => e3⟩
  rw [this, List.filter_eq_self.mpr fun _ _ => rfl]
/-! ### words -/
def Wd (l : List Nat) : Prop := ∀ c ∈ l, c = 97 ∨ c = 98
theorem strs_of : ∀ {ys : List D}, (∀ y ∈ ys, y = .str [97] ∨ y = .str [98]) → ∃ l, Wd l ∧ l.length = ys.length ∧ strsD ys = some (l.map fun c => [c])
  | [], _ => ⟨[], fun c hc => (by cases hc), rfl, rfl⟩
  | y :: ys, h => by
    obtain ⟨l, w, e1, e2⟩ := strs_of (ys := ys) fun y hy => h y (by simp [hy])
    rcases h y (by simp) with rfl | rfl
    · exact ⟨97 :: l, fun c hc => by rcases List.mem_cons.mp hc with rfl | hc; exact .inl rfl; exact w c hc, by simp [e1], by simp [strsD, e2]⟩
    · exact ⟨98 :: l, fun c hc => by rcases List.mem_cons.mp hc with rfl | hc; exact .inr rfl; exact w c hc, by simp [e1], by simp [strsD, e2]⟩
theorem join_nil : ∀ ls : List (List Nat), joinN [] ls = ls.flatten
  | [] => rfl
  | [x] => by simp [joinN]
  | x :: y :: r => by
    have := join_nil (y :: r)
    simp only [joinN, this, List.nil_append]
    rfl
theorem joinD_of {ys : List D} {ls : List (List Nat)} (e : strsD ys = some ls) (hb : ls.flatten.length ≤ 100000) : joinD [] [.lst ys] = some (.str ls.flatten) := by
  unfold joinD
  simp only [e]
  rw [if_pos, join_nil]
  rw [List.length_nil, Nat.mul_zero, ← List.length_flatten]
  omega
theorem flat_sing : ∀ l : List Nat, (l.map fun c => [c]).flatten = l
  | [] => rfl
  | c :: l => by simp [flat_sing l]
/-- a drawn word -/
theorem draw_word {T : List (Addr × Str)} {h : Hand} {m : Int} {ρ : En} {i : Nat} (hi : i ≠ 0) (hρ : ρ[0]? = some (some (.val .hnd))) (hm : 0 < m) (hm2 : m < 1000) (H : HOk T h) :
    ∃ l h', msM (pureM (.str [])) (consM (compM (mapM1 (consM (callM F__law_draw (consM (nameM 0) (consM (pureM (.int m)) (pureM [])))) (pureM [])) rng1) (tgN i) [i] (pureM true) (callM F__law_any (consM (nameM 0) (consM (lstM (consM (pureM (.str [97])) (consM (pureM (.str [98])) (pureM [])))) (pureM []))))) (pureM [])) joinD ρ h = .ok (.str l) h' ∧ Wd l ∧ (l.length : Int) < m ∧ HOk T h' := by
  obtain ⟨d, h1, e1, d0, d1, H1⟩ := F_draw hm hm2 H
  have hl2 : (2 : Nat) ≤ sizeLine := by decide
  have hw : wipeE ρ [i] = ρ.set i none := rfl
  obtain ⟨ys, h2, e2, l2, r2, H2⟩ := comp_state (T := T) (g := tgN i) (t := pureM true) (e := callM F__law_any (consM (nameM 0) (consM (lstM (consM (pureM (.str [97])) (consM (pureM (.str [98])) (pureM [])))) (pureM [])))) (ρ := wipeE ρ [i]) (fun y => y = .str [97] ∨ y = .str [98]) (fun d h H => by
    obtain ⟨y, h', e, my, H'⟩ := F_any (ds := [.str [97], .str [98]]) (by simp) (by simp) H
    refine ⟨_, y, h', rfl, rfl, ?_, by simpa using my, H'⟩
    have e0 : ((wipeE ρ [i]).set i (some (.val d)))[0]? = some (some (.val .hnd)) := by
      rw [hw, List.getElem?_set_ne hi, List.getElem?_set_ne hi]; exact hρ
    simp only [bindM, RE.bind, pureM, lift, nameM, viewM, seqS, RS.seq, skipS, RE.to, setS, setLS, retS, dropS, ifS, andT, orT, notT, andV, orV, notV, ifM, valT, opB, op2, consM, mapM1, blM, callM, handM, isHnd, handGet, handSet, hstS, lstM, tupM, frzS, frzE, intD, absD, e0, List.length_cons, List.length_nil, hl2, if_true, e]) (rangeD 0 d.toNat) h1 H1
  obtain ⟨l, w, e3, e4⟩ := strs_of r2
  have hlen : l.length = d.toNat := by rw [e3, l2]; simp [rangeD]
  have hfl := flat_sing l
  refine ⟨l, h2, ?_, w, by omega, H2⟩
  have er : rng1 [.int d] = some (rangeD 0 d.toNat) := if_pos ⟨by omega, by omega⟩
  have es : (rangeD 0 d.toNat).length ≤ sizeLine := by simp [rangeD]; have := sz_big; omega
  have ej := joinD_of e4 (by rw [hfl]; omega)
  rw [hfl] at ej
  generalize callM F__law_any (consM (nameM 0) (consM (lstM (consM (pureM (.str [97])) (consM (pureM (.str [98])) (pureM [])))) (pureM []))) = ee at e2 ⊢
  unfold msM compM
  simp only [bindM, RE.bind, pureM, lift, nameM, viewM, seqS, RS.seq, skipS, RE.to, setS, setLS, retS, dropS, ifS, andT, orT, notT, andV, orV, notV, ifM, valT, opB, op2, consM, mapM1, blM, callM, handM, isHnd, handGet, handSet, hstS, lstM, tupM, frzS, frzE, intD, absD, hρ, e1, er, es, if_true] at e2 ⊢
  simp only [e2, ej]
/-! ### a drawn code -/
def Cd (c0 c1 : List Nat) : Prop := Wd c0 ∧ Wd c1 ∧ c0.length ≤ 4 ∧ c1.length ≤ 4
theorem appS_ev {i : Nat} {f : EM D} {ρ : En} {h h' : Hand} {ds : List D} {d : D} (e1 : ρ[i]? = some (some (.own ds))) (e2 : f ρ h = .ok d h') (hl : ds.length < 1000) : appS' i f ρ h = .ok .next (ρ.set i (some (.own (ds ++ [d])))) h' := by
  have eo : ownAt i ρ = some ds := by unfold ownAt; rw [e1]
  have : ds.length < sizeLine := by have := sz_big; omega
  unfold appS'
  simp only [eo, e2, RE.to, this, if_true]
theorem F_code {T : List (Addr × Str)} {h : Hand} (H : HOk T h) : ∃ c0 c1 h', F__law_code [.hnd] h = .ok (.tup [.str c0, .str c1]) h' ∧ Cd c0 c1 ∧ HOk T h' := by
  have hs : ∀ n, n < 1000 → n ≤ sizeLine := fun n hn => by have := sz_big; omega
  have e0 : en0 6 [.hnd] = [some (.val .hnd), none, none, none, none, none] := rfl
  have key : ∃ c0 c1 ρ h', B__law_code [some (.val .hnd), none, none, none, none, none] h = .ok (.ret (.tup [.str c0, .str c1])) ρ h' ∧ Cd c0 c1 ∧ HOk T h' := by
    unfold B__law_code
    generalize hmm : msM (pureM (.str [])) (consM (compM (mapM1 (consM (callM F__law_draw (consM (nameM 0) (consM (pureM (.int 4)) (pureM [])))) (pureM [])) rng1) (tgN 5) [5] (pureM true) (callM F__law_any (consM (nameM 0) (consM (lstM (consM (pureM (.str [97])) (consM (pureM (.str [98])) (pureM [])))) (pureM []))))) (pureM [])) joinD = mm
    have dw : ∀ (ρ : En) (h : Hand), ρ[0]? = some (some (.val .hnd)) → HOk T h → ∃ l h', mm ρ h = .ok (.str l) h' ∧ Wd l ∧ (l.length : Int) < 4 ∧ HOk T h' := fun ρ h hρ H => by
      rw [← hmm]
      exact draw_word (i := 5) (by decide) hρ (by decide) (by decide) H
    obtain ⟨a, h1, e1, wa, la, H1⟩ := dw [some (.val .hnd), some (.own []), some (.val (.int 0)), none, none, none] h rfl H
    obtain ⟨b, h2, e2, wb, lb, H2⟩ := dw [some (.val .hnd), some (.own [.str a]), some (.val (.int 1)), none, none, none] h1 rfl H1
    obtain ⟨r, h3, e3, mr, H3⟩ := F_any (ds := [.str [97], .str [97, 98], .str [98]]) (by simp) (by simp) H2
    have er : ∃ w, r = .str w ∧ Wd w ∧ w.length ≤ 2 := by
      simp only [List.mem_cons, List.not_mem_nil, or_false] at mr
      rcases mr with rfl | rfl | rfl
      · exact ⟨_, rfl, by intro c hc; simp at hc; omega, by decide⟩
      · exact ⟨_, rfl, by intro c hc; simp at hc; omega, by decide⟩
      · exact ⟨_, rfl, by intro c hc; simp at hc; omega, by decide⟩
    obtain ⟨w, rfl, ww, lw⟩ := er
    obtain ⟨p, h4, e4, mp, H4⟩ := F_any (ds := [.tup [.str a, .str b], .tup [.str a, .str b], .tup [.str w, .str (w ++ w)], .tup [.str a, .str a], .tup [.str [], .str b]]) (by simp) (by simp) H3
    have ep : ∃ c0 c1, p = .tup [.str c0, .str c1] ∧ Cd c0 c1 := by
      have w0 : Wd [] := fun c hc => by cases hc
      have w2 : Wd (w ++ w) := fun c hc => by rcases List.mem_append.mp hc with hc | hc <;> exact ww c hc
      simp only [List.mem_cons, List.not_mem_nil, or_false] at mp
      rcases mp with rfl | rfl | rfl | rfl | rfl
      · exact ⟨_, _, rfl, wa, wb, by omega, by omega⟩
      · exact ⟨_, _, rfl, wa, wb, by omega, by omega⟩
      · exact ⟨_, _, rfl, ww, w2, by omega, by simp; omega⟩
      · exact ⟨_, _, rfl, wa, wa, by omega, by omega⟩
      · exact ⟨_, _, rfl, w0, wb, by simp, by omega⟩
    obtain ⟨c0, c1, rfl, cd⟩ := ep
    have hr : rng1 [.int 2] = some [.int 0, .int 1] := rfl
    have l1 : (w.length + w.length ≤ sizeLine) := hs _ (by omega)
    have f1 : appS' 1 mm [some (.val .hnd), some (.own []), some (.val (.int 0)), none, none, none] h = .ok .next [some (.val .hnd), some (.own [.str a]), some (.val (.int 0)), none, none, none] h1 := appS_ev (ds := []) rfl e1 (show (0 : Nat) < 1000 by decide)
    have f2 : appS' 1 mm [some (.val .hnd), some (.own [.str a]), some (.val (.int 1)), none, none, none] h1 = .ok .next [some (.val .hnd), some (.own [.str a, .str b]), some (.val (.int 1)), none, none, none] h2 := appS_ev (ds := [.str a]) rfl e2 (show (1 : Nat) < 1000 by decide)
    refine ⟨c0, c1, [some (.val .hnd), some (.own [.str a, .str b]), some (.val (.int 1)), some (.val (.str w)), some (.val (.lst [.tup [.str a, .str b], .tup [.str a, .str b], .tup [.str w, .str (w ++ w)], .tup [.str a, .str a], .tup [.str [], .str b]])), none], h4, ?_, cd, H4⟩
    have s0 : (0 : Nat) ≤ sizeLine := hs 0 (by omega)
    have s2 : (2 : Nat) ≤ sizeLine := hs 2 (by omega)
    have s3 : (3 : Nat) ≤ sizeLine := hs 3 (by omega)
    have s5 : (5 : Nat) ≤ sizeLine := hs 5 (by omega)
    have i0 : ixD (.lst [.str a, .str b]) (.int 0) = some (.str a) := rfl
    have i1 : ixD (.lst [.str a, .str b]) (.int 1) = some (.str b) := rfl
    simp only [bindM, RE.bind, pureM, lift, nameM, viewM, seqS, RS.seq, skipS, RE.to, setS, setLS, retS, dropS, ifS, andT, orT, notT, andV, orV, notV, ifM, valT, opB, op2, consM, mapM1, blM, callM, handM, isHnd, handGet, handSet, hstS, lstM, tupM, frzS, frzE, intD, absD, forS, loopS, tgN, hr, List.getElem?_cons_zero, List.getElem?_cons_succ, List.set_cons_zero, List.set_cons_succ, List.length_nil, List.length_cons, Nat.zero_add, Nat.reduceAdd, s0, s2, s3, s5, if_true, f1, f2, e3, tupleD, addD, l1, i0, i1, e4]
  obtain ⟨c0, c1, ρ, h', e, cd, H'⟩ := key
  refine ⟨c0, c1, h', ?_, cd, H'⟩
  show fnD 6 B__law_code [.hnd] h = _
  unfold fnD
  rw [e0, e]
/-! ### images -/
def img (c0 c1 : List Nat) (w : List Nat) : List Nat := w.flatMap fun l => if l = 97 then c0 else c1
theorem img_len {c0 c1 : List Nat} (h : Cd c0 c1) : ∀ w : List Nat, (img c0 c1 w).length ≤ 4 * w.length
  | [] => by simp [img]
  | l :: w => by
    have ih := img_len h w
    have h1 := h.2.2.1
    have h2 := h.2.2.2
    show ((if l = 97 then c0 else c1) ++ img c0 c1 w).length ≤ _
    rw [List.length_append, List.length_cons]
    split <;> omega
theorem img_wd {c0 c1 : List Nat} (h0 : Wd c0) (h1 : Wd c1) (w : List Nat) : Wd (img c0 c1 w) := fun c hc => by
  obtain ⟨l, _, hl⟩ := List.mem_flatMap.mp hc
  split at hl
  · exact h0 c hl
  · exact h1 c hl
theorem idx_ab {c : Nat} (h : c = 97 ∨ c = 98) : indexD [97, 98] [.str [c]] = some (.int (if c = 97 then 0 else 1)) := by
  rcases h with rfl | rfl <;> with_unfolding_all rfl
theorem strs_map (f : Nat → List Nat) : ∀ w : List Nat, strsD (w.map fun c => .str (f c)) = some (w.map f)
  | [] => rfl
  | c :: w => by simp [strsD, strs_map f w]
theorem raw_ev {c0 c1 w : List Nat} {h : Hand} (hw : Wd w) (hl : w.length ≤ 1000) (hb : (img c0 c1 w).length ≤ 100000) (x2 : Option Sl) :
    retS (msM (pureM (.str [])) (consM (compM (seqItems (nameM 1)) (tgN 2) [2] (pureM true) (op2 ixD (nameM 0) (msM (pureM (.str [97, 98])) (consM (nameM 2) (pureM [])) indexD))) (pureM [])) joinD) [some (.val (.tup [.str c0, .str c1])), some (.val (.str w)), x2] h
      = .ok (.ret (.str (img c0 c1 w))) [some (.val (.tup [.str c0, .str c1])), some (.val (.str w)), x2] h := by
  generalize hee : op2 ixD (nameM 0) (msM (pureM (.str [97, 98])) (consM (nameM 2) (pureM [])) indexD) = ee
  have cm : compL (tgN 2) (pureM true) ee [some (.val (.tup [.str c0, .str c1])), some (.val (.str w)), none] (chars w) h = .ok (w.map fun c => .str (if c = 97 then c0 else c1)) h := by
    have := comp_all (g := tgN 2) (t := pureM true) (e := ee) (ρ := [some (.val (.tup [.str c0, .str c1])), some (.val (.str w)), none]) (h := h) (fun d => match d with | .str [c] => .str (if c = 97 then c0 else c1) | d => d) (chars w) (fun d hd => by
      obtain ⟨c, hc, rfl⟩ := List.mem_map.mp hd
      refine ⟨_, rfl, rfl, ?_⟩
      rw [← hee]
      simp only [bindM, RE.bind, pureM, lift, nameM, viewM, seqS, RS.seq, skipS, RE.to, setS, setLS, retS, dropS, ifS, andT, orT, notT, andV, orV, notV, ifM, valT, opB, op2, consM, mapM1, blM, callM, handM, isHnd, handGet, handSet, hstS, lstM, tupM, frzS, frzE, intD, absD, msM, List.set_cons_succ, List.set_cons_zero, List.getElem?_cons_zero, List.getElem?_cons_succ, idx_ab (hw c hc)]
      by_cases h97 : c = 97
      · simp only [h97, if_true]
        rfl
      · simp only [h97, if_false]
        rfl)
    rw [this]
    unfold chars
    rw [List.map_map]
    rfl
  have es : (chars w).length ≤ sizeLine := by have := sz_big; simp [chars]; omega
  have hj := joinD_of (strs_map (fun c => if c = 97 then c0 else c1) w) (by rw [← List.flatMap_def]; exact hb)
  rw [← List.flatMap_def] at hj
  have hj' : joinD [] [.lst (w.map fun c => .str (if c = 97 then c0 else c1))] = some (.str (img c0 c1 w)) := hj
  simp only [bindM, RE.bind, pureM, lift, nameM, viewM, seqS, RS.seq, skipS, RE.to, setS, setLS, retS, dropS, ifS, andT, orT, notT, andV, orV, notV, ifM, valT, opB, op2, consM, mapM1, blM, callM, handM, isHnd, handGet, handSet, hstS, lstM, tupM, frzS, frzE, intD, absD, msM, compM, seqItems, List.getElem?_cons_zero, List.getElem?_cons_succ, wipeE, List.set_cons_succ, List.set_cons_zero, es, if_true, cm, hj']
theorem F_raw {c0 c1 w : List Nat} {h : Hand} (hw : Wd w) (hl : w.length ≤ 1000) (hb : (img c0 c1 w).length ≤ 100000) : F_raw_image [.tup [.str c0, .str c1], .str w] h = .ok (.str (img c0 c1 w)) h := by
  show fnD 3 B_raw_image _ h = _
  unfold fnD
  rw [show en0 3 [.tup [.str c0, .str c1], .str w] = [some (.val (.tup [.str c0, .str c1])), some (.val (.str w)), none] from rfl]
  unfold B_raw_image
  rw [raw_ev hw hl hb]
theorem F_limg {c0 c1 w : List Nat} {h : Hand} (hw : Wd w) (hl : w.length ≤ 1000) (hb : (img c0 c1 w).length ≤ 100000) : F__law_image [.tup [.str c0, .str c1], .str w] h = .ok (.str (img c0 c1 w)) h := by
  show fnD 3 B__law_image _ h = _
  unfold fnD
  rw [show en0 3 [.tup [.str c0, .str c1], .str w] = [some (.val (.tup [.str c0, .str c1])), some (.val (.str w)), none] from rfl]
  unfold B__law_image
  rw [raw_ev hw hl hb]
/-! ### checks -/
theorem in_ab {c : Nat} (h : c = 97 ∨ c = 98) : inB (.str [c]) (.str [97, 98]) = some true := by rcases h with rfl | rfl <;> rfl
theorem bls_map {α : Type} (p : α → Bool) : ∀ w : List α, blsD (w.map fun c => .bl (p c)) = some (w.map p)
  | [] => rfl
  | c :: w => by simp [blsD, bls_map p w]
theorem F_let {w : List Nat} {m : Int} {h : Hand} (hw : Wd w) (hl : (w.length : Int) ≤ m) (hs : w.length ≤ 1000) : F_is_letters [.str w, .int m] h = .ok (.bl true) h := by
  show fnD 3 B_is_letters _ h = _
  unfold fnD
  rw [show en0 3 [.str w, .int m] = [some (.val (.str w)), some (.val (.int m)), none] from rfl]
  unfold B_is_letters
  generalize hee : blM (opB inB (nameM 2) (pureM (.str [97, 98]))) = ee
  have cm : compL (tgN 2) (pureM true) ee [some (.val (.str w)), some (.val (.int m)), none] (chars w) h = .ok (w.map fun _ => .bl true) h := by
    have := comp_all (g := tgN 2) (t := pureM true) (e := ee) (ρ := [some (.val (.str w)), some (.val (.int m)), none]) (h := h) (fun _ => .bl true) (chars w) (fun d hd => by
      obtain ⟨c, hc, rfl⟩ := List.mem_map.mp hd
      refine ⟨_, rfl, rfl, ?_⟩
      rw [← hee]
      simp only [bindM, RE.bind, pureM, lift, nameM, viewM, seqS, RS.seq, skipS, RE.to, setS, setLS, retS, dropS, ifS, andT, orT, notT, andV, orV, notV, ifM, valT, opB, op2, consM, mapM1, blM, callM, handM, isHnd, handGet, handSet, hstS, lstM, tupM, frzS, frzE, intD, absD, List.set_cons_succ, List.set_cons_zero, List.getElem?_cons_zero, List.getElem?_cons_succ, in_ab (hw c hc)])
    rw [this]
    unfold chars
    rw [List.map_map]
    rfl
  have es : (chars w).length ≤ sizeLine := by have := sz_big; simp [chars]; omega
  have ws : w.length ≤ sizeLine := by have := sz_big; omega
  have ii : isiD "str" (.str w) = some (.bl true) := rfl
  have al : allD [.lst (w.map fun _ => .bl true)] = some (.bl true) := by
    show (blsD _).map _ = _
    rw [bls_map (fun _ => true)]
    simp
  simp only [bindM, RE.bind, pureM, lift, nameM, viewM, seqS, RS.seq, skipS, RE.to, setS, setLS, retS, dropS, ifS, andT, orT, notT, andV, orV, notV, ifM, valT, opB, op2, consM, mapM1, blM, callM, handM, isHnd, handGet, handSet, hstS, lstM, tupM, frzS, frzE, intD, absD, compM, seqItems, List.getElem?_cons_zero, List.getElem?_cons_succ, wipeE, List.set_cons_succ, List.set_cons_zero, es, if_true, cm, ii, lenD, ws, leB, decide_eq_true hl, al]
theorem F_iscode {c0 c1 : List Nat} {h : Hand} (c : Cd c0 c1) : F_is_code [.tup [.str c0, .str c1]] h = .ok (.bl true) h := by
  show fnD 2 B_is_code _ h = _
  unfold fnD
  rw [show en0 2 [.tup [.str c0, .str c1]] = [some (.val (.tup [.str c0, .str c1])), none] from rfl]
  unfold B_is_code
  have s1 : F_is_sized [.tup [.str c0, .str c1], .int 2, .int 2] h = .ok (.bl true) h := rfl
  have l0 := F_let (h := h) (m := 4) c.1 (by have := c.2.2.1; omega) (by have := c.2.2.1; omega)
  have l1 := F_let (h := h) (m := 4) c.2.1 (by have := c.2.2.2; omega) (by have := c.2.2.2; omega)
  have s2 : (2 : Nat) ≤ sizeLine := by decide
  have al : allD [.lst [.bl true, .bl true]] = some (.bl true) := rfl
  simp only [bindM, RE.bind, pureM, lift, nameM, viewM, seqS, RS.seq, skipS, RE.to, setS, setLS, retS, dropS, ifS, andT, orT, notT, andV, orV, notV, ifM, valT, opB, op2, consM, mapM1, blM, callM, handM, isHnd, handGet, handSet, hstS, lstM, tupM, frzS, frzE, intD, absD, compM, compL, tgN, seqItems, List.getElem?_cons_zero, List.getElem?_cons_succ, wipeE, List.set_cons_succ, List.set_cons_zero, List.length_cons, List.length_nil, Nat.zero_add, Nat.reduceAdd, s2, if_true, s1, l0, l1, al]
theorem F_chkcode {c0 c1 : List Nat} {h : Hand} (c : Cd c0 c1) : F_check_code [.tup [.str c0, .str c1]] h = .ok .non h := by
  show fnD 1 B_check_code _ h = _
  unfold fnD
  rw [show en0 1 [.tup [.str c0, .str c1]] = [some (.val (.tup [.str c0, .str c1]))] from rfl]
  unfold B_check_code
  simp only [bindM, RE.bind, pureM, lift, nameM, viewM, seqS, RS.seq, skipS, RE.to, setS, setLS, retS, dropS, ifS, andT, orT, notT, andV, orV, notV, ifM, valT, opB, op2, consM, mapM1, blM, callM, handM, isHnd, handGet, handSet, hstS, lstM, tupM, frzS, frzE, intD, absD, List.getElem?_cons_zero, F_iscode c, Bool.not_true, Bool.false_eq_true, if_false]
theorem F_chkword {w : List Nat} {m : Int} {h : Hand} (hw : Wd w) (hl : (w.length : Int) ≤ m) (hs : w.length ≤ 1000) : F_check_word [.str w, .int m] h = .ok .non h := by
  show fnD 2 B_check_word _ h = _
  unfold fnD
  rw [show en0 2 [.str w, .int m] = [some (.val (.str w)), some (.val (.int m))] from rfl]
  unfold B_check_word
  simp only [bindM, RE.bind, pureM, lift, nameM, viewM, seqS, RS.seq, skipS, RE.to, setS, setLS, retS, dropS, ifS, andT, orT, notT, andV, orV, notV, ifM, valT, opB, op2, consM, mapM1, blM, callM, handM, isHnd, handGet, handSet, hstS, lstM, tupM, frzS, frzE, intD, absD, List.getElem?_cons_zero, List.getElem?_cons_succ, F_let hw hl hs, Bool.not_true, Bool.false_eq_true, if_false]
theorem F_img {c0 c1 w : List Nat} {h : Hand} (c : Cd c0 c1) (hw : Wd w) (hl : w.length ≤ 12) : F_image [.tup [.str c0, .str c1], .str w] h = .ok (.str (img c0 c1 w)) h := by
  show fnD 2 B_image _ h = _
  unfold fnD
  rw [show en0 2 [.tup [.str c0, .str c1], .str w] = [some (.val (.tup [.str c0, .str c1])), some (.val (.str w))] from rfl]
  unfold B_image
  have hr := F_raw (c0 := c0) (c1 := c1) (h := h) hw (by omega) (by have := img_len c w; omega)
  simp only [bindM, RE.bind, pureM, lift, nameM, viewM, seqS, RS.seq, skipS, RE.to, setS, setLS, retS, dropS, ifS, andT, orT, notT, andV, orV, notV, ifM, valT, opB, op2, consM, mapM1, blM, callM, handM, isHnd, handGet, handSet, hstS, lstM, tupM, frzS, frzE, intD, absD, List.getElem?_cons_zero, List.getElem?_cons_succ, F_chkcode c, F_chkword (m := 12) hw (by omega) (by omega), hr]
/-! ### going back -/
/-- p stands in w and ends at e -/
def mt (w p : List Nat) (e : Nat) : Bool := (p != []) && (decide (p.length ≤ e) && ((w.drop (e - p.length)).take p.length == p))
theorem cut_at {w p : List Nat} {e : Nat} (h1 : p.length ≤ e) (h2 : e ≤ w.length) : cutD w (some ((e : Int) - (p.length : Nat))) (some (e : Int)) = (w.drop (e - p.length)).take p.length := by
  unfold cutD
  have e1 : ((e : Int) - (p.length : Nat)) = ((e - p.length : Nat) : Int) := by omega
  rw [e1, HT.sIx_nat, HT.sIx_nat]
  rw [Nat.min_eq_left (show e - p.length ≤ w.length by omega), Nat.min_eq_left h2]
  congr 1
  omega
theorem eqS (a b : List Nat) : eqB (.str a) (.str b) = some (a == b) := rfl
theorem neS (a b : List Nat) : neB (.str a) (.str b) = some (!(a == b)) := rfl
theorem cond_ev {w p : List Nat} {e ip : Nat} {ρ : En} {h : Hand} (h1 : ρ[1]? = some (some (.val (.str w)))) (h3 : ρ[3]? = some (some (.val (.int (e : Nat))))) (h5 : ρ[5]? = some (some (.val (.str p)))) (he : e ≤ w.length) (hw : w.length ≤ 1000) (hp : p.length ≤ 1000) :
    andT (opB neB (nameM 5) (pureM (.str []))) (andT (opB leB (mapM1 (consM (nameM 5) (pureM [])) lenD) (nameM 3)) (opB eqB (sliceM (nameM 1) (partM (some (op2 subD (nameM 3) (mapM1 (consM (nameM 5) (pureM [])) lenD)))) (partM (some (nameM 3)))) (nameM 5))) ρ h = .ok (mt w p e) h := by
  have hb := sz_big
  have ps : p.length ≤ sizeLine := by omega
  have ws : w.length ≤ sizeLine := by omega
  unfold mt
  by_cases h0 : p = []
  · subst h0
    simp only [bindM, RE.bind, pureM, lift, nameM, viewM, seqS, RS.seq, skipS, RE.to, setS, setLS, retS, dropS, ifS, andT, orT, notT, andV, orV, notV, ifM, valT, opB, op2, consM, mapM1, blM, callM, handM, isHnd, handGet, handSet, hstS, lstM, tupM, frzS, frzE, intD, absD, h5, neS, beq_self_eq_true, Bool.not_true, Bool.false_eq_true, if_false, bne_self_eq_false, Bool.false_and]
  · have h0' : (p == []) = false := by simpa using h0
    have h0'' : (p != []) = true := by simpa using h0
    by_cases h2 : p.length ≤ e
    · simp only [bindM, RE.bind, pureM, lift, nameM, viewM, seqS, RS.seq, skipS, RE.to, setS, setLS, retS, dropS, ifS, andT, orT, notT, andV, orV, notV, ifM, valT, opB, op2, consM, mapM1, blM, callM, handM, isHnd, handGet, handSet, hstS, lstM, tupM, frzS, frzE, intD, absD, h5, h3, h1, neS, h0', h0'', Bool.not_false, if_true, lenD, ps, leB, show ((p.length : Nat) : Int) ≤ (e : Int) by omega, decide_true, sliceM, partM, subD, sliceD, ws, cut_at h2 he, eqS, Bool.true_and, h2]
    · simp only [bindM, RE.bind, pureM, lift, nameM, viewM, seqS, RS.seq, skipS, RE.to, setS, setLS, retS, dropS, ifS, andT, orT, notT, andV, orV, notV, ifM, valT, opB, op2, consM, mapM1, blM, callM, handM, isHnd, handGet, handSet, hstS, lstM, tupM, frzS, frzE, intD, absD, h5, h3, h1, neS, h0', h0'', Bool.not_false, if_true, lenD, ps, leB, show ¬ ((p.length : Nat) : Int) ≤ (e : Int) by omega, decide_false, Bool.false_eq_true, if_false, Bool.true_and, h2, Bool.false_and]
/-- a row built up, item by item -/
def build {α : Type} (a0 : α) (f : List α → Nat → α) : Nat → List α
  | 0 => [a0]
  | n + 1 => build a0 f n ++ [f (build a0 f n) (n + 1)]
theorem build_len {α : Type} (a0 : α) (f : List α → Nat → α) : ∀ n, (build a0 f n).length = n + 1
  | 0 => rfl
  | n + 1 => by simp [build, build_len a0 f n]
theorem build_map {α β : Type} (g : α → β) {a0 : α} {f : List α → Nat → α} {f' : List β → Nat → β} (hf : ∀ L e, 1 ≤ e → L.length = e → g (f L e) = f' (L.map g) e) : ∀ n, (build a0 f n).map g = build (g a0) f' n
  | 0 => rfl
  | n + 1 => by
    rw [build, build, List.map_append, build_map g hf n, List.map_cons, List.map_nil, hf _ _ (by omega) (build_len _ _ n), build_map g hf n]
/-- a loop over lo, lo + 1, .. that leaves the hand as it is -/
theorem loop_rng {g : TM} {b : SM} {lo : Int} {h : Hand} (P : Nat → En → Prop) : ∀ (n k : Nat) (ρ : En), (∀ i ρ, k ≤ i → i < k + n → P i ρ → ∃ ρ1 ρ', g (.int (lo + (i : Nat))) ρ = some ρ1 ∧ b ρ1 h = .ok .next ρ' h ∧ P (i + 1) ρ') → P k ρ →
    ∃ ρ', loopS g b ((List.range' k n).map fun i => .int (lo + (i : Nat))) ρ h = .ok .next ρ' h ∧ P (k + n) ρ'
  | 0, k, ρ, _, hP => ⟨ρ, rfl, hP⟩
  | n + 1, k, ρ, st, hP => by
    obtain ⟨ρ1, ρ2, e1, e2, hP2⟩ := st k ρ (Nat.le_refl k) (by omega) hP
    obtain ⟨ρ3, e3, hP3⟩ := loop_rng P n (k + 1) ρ2 (fun i ρ h1 h2 hP => st i ρ (by omega) (by omega) hP) hP2
    refine ⟨ρ3, ?_, by rw [show k + (n + 1) = k + 1 + n by omega]; exact hP3⟩
    rw [List.range'_succ, List.map_cons]
    simp only [loopS, e1, e2]
    exact e3
theorem rangeD_eq (lo : Int) (n : Nat) : rangeD lo n = (List.range' 0 n).map fun i => .int (lo + (i : Nat)) := by
  unfold rangeD
  rw [List.range_eq_range']
theorem rng_ev {n : Nat} (hn : n ≤ 1000) : rng2 [.int 1, .int (((n : Nat) : Int) + 1)] = some (rangeD 1 n) := by
  have e : ((((n : Nat) : Int) + 1) - 1).toNat = n := by omega
  unfold rng2
  simp only [e]
  rw [if_pos]
  exact ⟨by omega, by omega, by omega, by omega⟩
/-! ### counts_back -/
def fC (c0 c1 w : List Nat) (L : List Nat) (e : Nat) : Nat := (if mt w c0 e = true then L.getD (e - c0.length) 0 else 0) + (if mt w c1 e = true then L.getD (e - c1.length) 0 else 0)
def intsL (L : List Nat) : List D := L.map fun n => .int (n : Nat)
theorem ix_ints {L : List Nat} {e p : Nat} (h1 : p ≤ e) (h2 : p ≠ 0) (h3 : L.length = e) : ixD (.lst (intsL L)) (.int ((e : Int) - (p : Nat))) = some (.int ((L.getD (e - p) 0 : Nat) : Int)) := by
  have e1 : ((e : Int) - (p : Nat)) = ((e - p : Nat) : Int) := by omega
  have hl : e - p < L.length := by omega
  have hl2 : e - p < (intsL L).length := by simp [intsL]; omega
  show L2.atI (intsL L) _ = _
  rw [e1]
  unfold L2.atI L2.ixN
  rw [if_pos (by omega), if_pos (by omega)]
  simp only [Int.toNat_natCast]
  simp [intsL, List.getD_eq_getElem?_getD, List.getElem?_eq_getElem hl]
theorem mt_len {w p : List Nat} {e : Nat} (h : mt w p e = true) : p.length ≤ e ∧ p.length ≠ 0 := by
  unfold mt at h
  simp only [Bool.and_eq_true, decide_eq_true_eq, bne_iff_ne, ne_eq] at h
  exact ⟨h.2.1, fun z => h.1 (List.length_eq_zero_iff.mp z)⟩
def cntB : SM := (seqS (setS 4 (pureM (.int 0))) (seqS (forS (seqItems (nameM 0)) (tgN 5) (ifS (andT (opB neB (nameM 5) (pureM (.str []))) (andT (opB leB (mapM1 (consM (nameM 5) (pureM [])) lenD) (nameM 3)) (opB eqB (sliceM (nameM 1) (partM (some (op2 subD (nameM 3) (mapM1 (consM (nameM 5) (pureM [])) lenD)))) (partM (some (nameM 3)))) (nameM 5)))) (setS 4 (op2 addD (nameM 4) (op2 ixD (viewM 2) (op2 subD (nameM 3) (mapM1 (consM (nameM 5) (pureM [])) lenD))))) skipS)) (appS' 2 (nameM 4))))
theorem cnt_loop {c0 c1 w : List Nat} {h : Hand} (c : Cd c0 c1) (hw : w.length ≤ 40) : ∃ x3 x4 x5, loopS (tgN 3) cntB (rangeD 1 w.length) [some (.val (.tup [.str c0, .str c1])), some (.val (.str w)), some (.own [.int 1]), none, none, none] h
    = .ok .next [some (.val (.tup [.str c0, .str c1])), some (.val (.str w)), some (.own (intsL (build 1 (fC c0 c1 w) w.length))), x3, x4, x5] h := by
  have hb := sz_big
  unfold cntB
  generalize hcd : andT (opB neB (nameM 5) (pureM (.str []))) (andT (opB leB (mapM1 (consM (nameM 5) (pureM [])) lenD) (nameM 3)) (opB eqB (sliceM (nameM 1) (partM (some (op2 subD (nameM 3) (mapM1 (consM (nameM 5) (pureM [])) lenD)))) (partM (some (nameM 3)))) (nameM 5))) = cd
  have hc : ∀ {p : List Nat} {e : Nat} {ρ : En}, ρ[1]? = some (some (.val (.str w))) → ρ[3]? = some (some (.val (.int (e : Nat)))) → ρ[5]? = some (some (.val (.str p))) → e ≤ w.length → p.length ≤ 4 → cd ρ h = .ok (mt w p e) h := fun {p e ρ} h1 h3 h5 he hp => by
    rw [← hcd]
    exact cond_ev (ip := 0) h1 h3 h5 he (by omega) (by omega)
  generalize hbd : (seqS (setS 4 (pureM (.int 0))) (seqS (forS (seqItems (nameM 0)) (tgN 5) (ifS cd (setS 4 (op2 addD (nameM 4) (op2 ixD (viewM 2) (op2 subD (nameM 3) (mapM1 (consM (nameM 5) (pureM [])) lenD))))) skipS)) (appS' 2 (nameM 4)))) = bd
  have hbody : ∀ (L : List Nat) (e : Nat) (x4 x5 : Option Sl), 1 ≤ e → e ≤ w.length → L.length = e → ∃ y4 y5, bd [some (.val (.tup [.str c0, .str c1])), some (.val (.str w)), some (.own (intsL L)), some (.val (.int (e : Nat))), x4, x5] h
      = .ok .next [some (.val (.tup [.str c0, .str c1])), some (.val (.str w)), some (.own (intsL (L ++ [fC c0 c1 w L e]))), some (.val (.int (e : Nat))), y4, y5] h := by
    intro L e x4 x5 he1 he hL
    rw [← hbd]
    have k0 := fun (x4 : Option Sl) => hc (p := c0) (e := e) (ρ := [some (.val (.tup [.str c0, .str c1])), some (.val (.str w)), some (.own (intsL L)), some (.val (.int (e : Nat))), x4, some (.val (.str c0))]) rfl rfl rfl he c.2.2.1
    have k1 := fun (x4 : Option Sl) => hc (p := c1) (e := e) (ρ := [some (.val (.tup [.str c0, .str c1])), some (.val (.str w)), some (.own (intsL L)), some (.val (.int (e : Nat))), x4, some (.val (.str c1))]) rfl rfl rfl he c.2.2.2
    have s0 : c0.length ≤ sizeLine := by have := c.2.2.1; omega
    have s1 : c1.length ≤ sizeLine := by have := c.2.2.2; omega
    have ap : ∀ (n : Nat) (x5 : Option Sl), appS' 2 (nameM 4) [some (.val (.tup [.str c0, .str c1])), some (.val (.str w)), some (.own (intsL L)), some (.val (.int (e : Nat))), some (.val (.int (n : Nat))), x5] h = .ok .next [some (.val (.tup [.str c0, .str c1])), some (.val (.str w)), some (.own (intsL (L ++ [n]))), some (.val (.int (e : Nat))), some (.val (.int (n : Nat))), x5] h := fun n x5 => by
      have := appS_ev (i := 2) (f := nameM 4) (ρ := [some (.val (.tup [.str c0, .str c1])), some (.val (.str w)), some (.own (intsL L)), some (.val (.int (e : Nat))), some (.val (.int (n : Nat))), x5]) (h := h) (ds := intsL L) rfl rfl (by simp [intsL]; omega)
      rw [this]
      simp [intsL]
    unfold fC
    refine ⟨some (.val (.int (((if mt w c0 e = true then L.getD (e - c0.length) 0 else 0) + (if mt w c1 e = true then L.getD (e - c1.length) 0 else 0) : Nat) : Int))), some (.val (.str c1)), ?_⟩
    by_cases m0 : mt w c0 e = true
    · have i0 := ix_ints (L := L) (mt_len m0).1 (mt_len m0).2 hL
      by_cases m1 : mt w c1 e = true
      · have i1 := ix_ints (L := L) (mt_len m1).1 (mt_len m1).2 hL
        simp only [bindM, RE.bind, pureM, lift, nameM, viewM, seqS, RS.seq, skipS, RE.to, setS, setLS, retS, dropS, ifS, andT, orT, notT, andV, orV, notV, ifM, valT, opB, op2, consM, mapM1, blM, callM, handM, isHnd, handGet, handSet, hstS, lstM, tupM, frzS, frzE, intD, absD, forS, seqItems, loopS, tgN, List.getElem?_cons_zero, List.getElem?_cons_succ, List.set_cons_zero, List.set_cons_succ, k0, k1, m0, m1, if_true, lenD, s0, s1, subD, i0, i1, addD, Int.zero_add]
        exact ap _ _
      · simp only [bindM, RE.bind, pureM, lift, nameM, viewM, seqS, RS.seq, skipS, RE.to, setS, setLS, retS, dropS, ifS, andT, orT, notT, andV, orV, notV, ifM, valT, opB, op2, consM, mapM1, blM, callM, handM, isHnd, handGet, handSet, hstS, lstM, tupM, frzS, frzE, intD, absD, forS, seqItems, loopS, tgN, List.getElem?_cons_zero, List.getElem?_cons_succ, List.set_cons_zero, List.set_cons_succ, k0, k1, m0, m1, if_true, lenD, s0, s1, subD, i0, addD, Int.zero_add, Bool.false_eq_true, if_false, Nat.add_zero]
        exact ap _ _
    · by_cases m1 : mt w c1 e = true
      · have i1 := ix_ints (L := L) (mt_len m1).1 (mt_len m1).2 hL
        simp only [bindM, RE.bind, pureM, lift, nameM, viewM, seqS, RS.seq, skipS, RE.to, setS, setLS, retS, dropS, ifS, andT, orT, notT, andV, orV, notV, ifM, valT, opB, op2, consM, mapM1, blM, callM, handM, isHnd, handGet, handSet, hstS, lstM, tupM, frzS, frzE, intD, absD, forS, seqItems, loopS, tgN, List.getElem?_cons_zero, List.getElem?_cons_succ, List.set_cons_zero, List.set_cons_succ, k0, k1, m0, m1, if_true, lenD, s0, s1, subD, i1, addD, Int.zero_add, Bool.false_eq_true, if_false, Nat.zero_add]
        exact ap _ _
      · simp only [bindM, RE.bind, pureM, lift, nameM, viewM, seqS, RS.seq, skipS, RE.to, setS, setLS, retS, dropS, ifS, andT, orT, notT, andV, orV, notV, ifM, valT, opB, op2, consM, mapM1, blM, callM, handM, isHnd, handGet, handSet, hstS, lstM, tupM, frzS, frzE, intD, absD, forS, seqItems, loopS, tgN, List.getElem?_cons_zero, List.getElem?_cons_succ, List.set_cons_zero, List.set_cons_succ, k0, k1, m0, m1, if_true, lenD, s0, s1, subD, addD, Int.zero_add, Bool.false_eq_true, if_false, Nat.zero_add]
        exact ap 0 _
  obtain ⟨ρ', e1, x3, x4, x5, e2⟩ := loop_rng (g := tgN 3) (b := bd) (lo := 1) (h := h) (fun i ρ => ∃ x3 x4 x5, ρ = [some (.val (.tup [.str c0, .str c1])), some (.val (.str w)), some (.own (intsL (build 1 (fC c0 c1 w) i))), x3, x4, x5]) w.length 0
    [some (.val (.tup [.str c0, .str c1])), some (.val (.str w)), some (.own (intsL [1])), none, none, none] (fun i ρ _ hi ⟨x3, x4, x5, e⟩ => by
      subst e
      obtain ⟨y4, y5, e2⟩ := hbody (build 1 (fC c0 c1 w) i) (i + 1) x4 x5 (by omega) (by omega) (build_len _ _ i)
      have ei : (1 : Int) + (i : Nat) = ((i + 1 : Nat) : Int) := by omega
      exact ⟨_, _, rfl, by rw [ei]; exact e2, _, _, _, rfl⟩) ⟨none, none, none, rfl⟩
  rw [Nat.zero_add] at e2
  rw [← rangeD_eq, e2] at e1
  exact ⟨x3, x4, x5, e1⟩
end G66

set_option Elab.async false
set_option linter.all false
set_option maxRecDepth 100000
set_option maxHeartbeats 4000000
namespace G66
open PySem DL
theorem map_ev {α β : Type} {g : EM α} {p : α → Option β} {ρ : En} {h h' : Hand} {a : α} {r : β} (hg : g ρ h = .ok a h') (er : p a = some r) : mapM1 g p ρ h = .ok r h' := by
  unfold mapM1 bindM
  rw [hg]
  show lift (p a) ρ h' = _
  rw [er]
  rfl
theorem F_counts {c0 c1 w : List Nat} {h : Hand} (c : Cd c0 c1) (hw : w.length ≤ 40) : F_counts_back [.tup [.str c0, .str c1], .str w] h = .ok (.lst (intsL (build 1 (fC c0 c1 w) w.length))) h := by
  have hb := sz_big
  obtain ⟨x3, x4, x5, e1⟩ := cnt_loop (h := h) c hw
  generalize hL : intsL (build 1 (fC c0 c1 w) w.length) = L at e1 ⊢
  show fnD 6 B_counts_back _ h = _
  unfold fnD
  rw [show en0 6 [.tup [.str c0, .str c1], .str w] = [some (.val (.tup [.str c0, .str c1])), some (.val (.str w)), none, none, none, none] from rfl]
  have e0 : B_counts_back = seqS (setLS 2 (lstM (consM (pureM (.int 1)) (pureM [])))) (seqS (forS (mapM1 (consM (pureM (.int 1)) (consM (op2 addD (mapM1 (consM (nameM 1) (pureM [])) lenD) (pureM (.int 1))) (pureM []))) rng2) (tgN 3) cntB) (frzS 2 (retS (nameM 2)))) := rfl
  rw [e0]
  generalize cntB = bd at e1 ⊢
  have ws : w.length ≤ sizeLine := by omega
  have l1 : lenD [.str w] = some (.int (w.length : Nat)) := if_pos ws
  have a1 : addD (.int (w.length : Nat)) (.int 1) = some (.int (((w.length : Nat) : Int) + 1)) := rfl
  have er := rng_ev (n := w.length) (by omega)
  have s1 : lstM (consM (pureM (.int 1)) (pureM [])) [some (.val (.tup [.str c0, .str c1])), some (.val (.str w)), none, none, none, none] h = .ok (.lst [.int 1]) h := by
    have : (1 : Nat) ≤ sizeLine := by omega
    simp only [bindM, RE.bind, pureM, lift, nameM, viewM, seqS, RS.seq, skipS, RE.to, setS, setLS, retS, dropS, ifS, andT, orT, notT, andV, orV, notV, ifM, valT, opB, op2, consM, mapM1, blM, callM, handM, isHnd, handGet, handSet, hstS, lstM, tupM, frzS, frzE, intD, absD, List.length_cons, List.length_nil, Nat.zero_add, this, if_true]
  generalize ((((w.length : Nat) : Int) + 1) : Int) = n1 at a1 er
  have s2 : mapM1 (consM (pureM (.int 1)) (consM (op2 addD (mapM1 (consM (nameM 1) (pureM [])) lenD) (pureM (.int 1))) (pureM []))) rng2 [some (.val (.tup [.str c0, .str c1])), some (.val (.str w)), some (.own [.int 1]), none, none, none] h = .ok (rangeD 1 w.length) h := by
    refine map_ev (a := [.int 1, .int n1]) ?_ er
    simp only [bindM, RE.bind, pureM, lift, nameM, viewM, seqS, RS.seq, skipS, RE.to, setS, setLS, retS, dropS, ifS, andT, orT, notT, andV, orV, notV, ifM, valT, opB, op2, consM, mapM1, blM, callM, handM, isHnd, handGet, handSet, hstS, lstM, tupM, frzS, frzE, intD, absD, List.getElem?_cons_zero, List.getElem?_cons_succ, l1, a1]
  generalize lstM (consM (pureM (.int 1)) (pureM [])) = f1 at s1 ⊢
  generalize mapM1 (consM (pureM (.int 1)) (consM (op2 addD (mapM1 (consM (nameM 1) (pureM [])) lenD) (pureM (.int 1))) (pureM []))) rng2 = f2 at s2 ⊢
  generalize rangeD 1 w.length = rg at s2 e1
  simp only [seqS, setLS, RE.to, RS.seq, s1, List.set_cons_succ, List.set_cons_zero, forS, s2, e1, frzS, frzE, List.getElem?_cons_zero, List.getElem?_cons_succ, retS, nameM]
theorem ix_last {α : Type} {L : List α} {n : Nat} (hL : L.length = n + 1) : L2.atI L (-1) = L[n]? := by
  unfold L2.atI L2.ixN
  rw [if_neg (by omega), if_pos (by omega)]
  show L[((-1 : Int) + (L.length : Nat)).toNat]? = _
  rw [hL]
  congr 1
  omega
theorem neg1 {ρ : En} {h : Hand} : negM (pureM (.int 1)) ρ h = .ok (.int (-1)) h := rfl
def hasE (c0 c1 : List Nat) : Bool := (c0 == []) || (c1 == [])
theorem in_E (c0 c1 : List Nat) : inB (.str []) (.tup [.str c0, .str c1]) = some (hasE c0 c1) := by
  show (if flatD (.str []) = true ∧ [D.str c0, D.str c1].all flatD = true then some ([D.str c0, D.str c1].any fun d => beq d (.str [])) else none) = _
  rw [if_pos ⟨rfl, rfl⟩]
  simp [hasE, beq]
def lastN (c0 c1 w : List Nat) : Nat := (build 1 (fC c0 c1 w) w.length).getD w.length 0
theorem F_many {c0 c1 w : List Nat} {h : Hand} (c : Cd c0 c1) (hw : Wd w) (hl : w.length ≤ 40) : F_many_back [.tup [.str c0, .str c1], .str w] h = .ok (if 0 < lastN c0 c1 w ∧ hasE c0 c1 = true then .non else .int (lastN c0 c1 w : Nat)) h := by
  have fc := F_counts (h := h) c hl
  have hlen := build_len 1 (fC c0 c1 w) w.length
  have hi : ixD (.lst (intsL (build 1 (fC c0 c1 w) w.length))) (.int (-1)) = some (.int (lastN c0 c1 w : Nat)) := by
    show L2.atI (intsL _) (-1) = _
    rw [ix_last (n := w.length) (by simp [intsL, hlen])]
    unfold lastN intsL
    rw [List.getElem?_map, List.getD_eq_getElem?_getD, List.getElem?_eq_getElem (by omega)]
    rfl
  have k1 := F_chkcode (h := h) c
  have k2 := F_chkword (m := 40) (h := h) hw (by omega) (by omega)
  generalize intsL (build 1 (fC c0 c1 w) w.length) = L at fc hi
  generalize lastN c0 c1 w = n at hi ⊢
  show fnD 3 B_many_back _ h = _
  unfold fnD
  rw [show en0 3 [.tup [.str c0, .str c1], .str w] = [some (.val (.tup [.str c0, .str c1])), some (.val (.str w)), none] from rfl]
  unfold B_many_back
  by_cases hn : 0 < n
  · have hn' : (0 : Int) < (n : Nat) := by omega
    by_cases he : hasE c0 c1 = true
    · simp only [bindM, RE.bind, pureM, lift, nameM, viewM, seqS, RS.seq, skipS, RE.to, setS, setLS, retS, dropS, ifS, andT, orT, notT, andV, orV, notV, ifM, valT, opB, op2, consM, mapM1, blM, callM, handM, isHnd, handGet, handSet, hstS, lstM, tupM, frzS, frzE, intD, absD, List.getElem?_cons_zero, List.getElem?_cons_succ, List.set_cons_succ, List.set_cons_zero, k1, k2, fc, negM, hi, gtB, decide_eq_true hn', if_true, in_E, he, hn, and_self, Int.reduceNeg]
    · simp only [bindM, RE.bind, pureM, lift, nameM, viewM, seqS, RS.seq, skipS, RE.to, setS, setLS, retS, dropS, ifS, andT, orT, notT, andV, orV, notV, ifM, valT, opB, op2, consM, mapM1, blM, callM, handM, isHnd, handGet, handSet, hstS, lstM, tupM, frzS, frzE, intD, absD, List.getElem?_cons_zero, List.getElem?_cons_succ, List.set_cons_succ, List.set_cons_zero, k1, k2, fc, negM, hi, gtB, decide_eq_true hn', if_true, in_E, he, hn, and_false, Int.reduceNeg, Bool.false_eq_true, if_false]
  · have hn' : ¬ (0 : Int) < (n : Nat) := by omega
    simp only [bindM, RE.bind, pureM, lift, nameM, viewM, seqS, RS.seq, skipS, RE.to, setS, setLS, retS, dropS, ifS, andT, orT, notT, andV, orV, notV, ifM, valT, opB, op2, consM, mapM1, blM, callM, handM, isHnd, handGet, handSet, hstS, lstM, tupM, frzS, frzE, intD, absD, List.getElem?_cons_zero, List.getElem?_cons_succ, List.set_cons_succ, List.set_cons_zero, k1, k2, fc, negM, hi, gtB, decide_eq_false hn', Bool.false_eq_true, if_false, hn, false_and, Int.reduceNeg]
end G66

set_option Elab.async false
set_option linter.all false
set_option maxRecDepth 100000
set_option maxHeartbeats 4000000
namespace G66
open PySem DL
theorem minIP_mem : ∀ (p : IP) (ps : List IP), minIP p ps ∈ p :: ps
  | p, [] => by simp [minIP]
  | p, q :: ps => by
    have ih := minIP_mem (if ipLt q p = true then q else p) ps
    have e : minIP p (q :: ps) = minIP (if ipLt q p = true then q else p) ps := rfl
    rw [e]
    by_cases h : ipLt q p = true
    · rw [if_pos h] at ih ⊢
      rcases List.mem_cons.mp ih with z | z
      · rw [z]; simp
      · simp [z]
    · rw [if_neg h] at ih ⊢
      rcases List.mem_cons.mp ih with z | z
      · rw [z]; simp
      · simp [z]
def bestD : Option (List Nat) → D
  | none => .non
  | some b => .str b
/-- what a letter's word, ending at e, gives -/
def cand (w : List Nat) (L : List (Option (List Nat))) (e : Nat) (p : List Nat) (l : Nat) : List IP :=
  if mt w p e = true then (match L.getD (e - p.length) none with | some b => [(((b.length + 1 : Nat) : Int), b ++ [l])] | none => []) else []
def fB (c0 c1 w : List Nat) (L : List (Option (List Nat))) (e : Nat) : Option (List Nat) := match cand w L e c0 97 ++ cand w L e c1 98 with
  | [] => none
  | p :: ps => some (minIP p ps).2
def LenOk (L : List (Option (List Nat))) : Prop := ∀ (i : Nat) (b : List Nat), L[i]? = some (some b) → b.length ≤ i
theorem cand_len {w p : List Nat} {L : List (Option (List Nat))} {e l : Nat} (hP : LenOk L) (hL : L.length = e) : ∀ q ∈ cand w L e p l, q.2.length ≤ e := by
  intro q hq
  unfold cand at hq
  by_cases m : mt w p e = true
  · rw [if_pos m] at hq
    obtain ⟨h1, h2⟩ := mt_len m
    cases hg : L.getD (e - p.length) none with
    | none => rw [hg] at hq; cases hq
    | some b =>
      rw [hg] at hq
      rw [List.mem_singleton.mp hq]
      have hi : L[e - p.length]? = some (some b) := by
        rw [List.getD_eq_getElem?_getD] at hg
        cases z : L[e - p.length]? with
        | none => rw [z] at hg; cases hg
        | some o => rw [z] at hg; rw [show o = some b from hg]
      have := hP _ _ hi
      simp
      omega
  · rw [if_neg m] at hq; cases hq
theorem fB_len {c0 c1 w : List Nat} {L : List (Option (List Nat))} {e : Nat} {b : List Nat} (hP : LenOk L) (hL : L.length = e) (h : fB c0 c1 w L e = some b) : b.length ≤ e := by
  have hc : ∀ q ∈ cand w L e c0 97 ++ cand w L e c1 98, q.2.length ≤ e := fun q hq => (List.mem_append.mp hq).elim (cand_len hP hL q) (cand_len hP hL q)
  unfold fB at h
  cases hx : cand w L e c0 97 ++ cand w L e c1 98 with
  | nil => rw [hx] at h; cases h
  | cons p ps =>
    rw [hx] at h hc
    have h : some (minIP p ps).2 = some b := h
    cases h
    exact hc _ (minIP_mem p ps)
theorem build_ok {c0 c1 w : List Nat} : ∀ n, LenOk (build (some []) (fB c0 c1 w) n)
  | 0 => fun i b h => by
    rcases i with _ | i
    · have h : some (some ([] : List Nat)) = some (some b) := h
      cases h
      exact Nat.le_refl _
    · cases h
  | n + 1 => fun i b h => by
    have ih := build_ok (c0 := c0) (c1 := c1) (w := w) n
    have hl := build_len (some []) (fB c0 c1 w) n
    rw [build] at h
    by_cases hi : i < n + 1
    · rw [List.getElem?_append_left (by omega)] at h
      exact ih i b h
    · rw [List.getElem?_append_right (by omega), hl] at h
      have : i = n + 1 := by
        by_cases z : i - (n + 1) = 0
        · omega
        · rw [List.getElem?_eq_none (by simp; omega)] at h; cases h
      subst this
      rw [Nat.sub_self] at h
      exact fB_len ih hl (Option.some.inj h)
def bests (L : List (Option (List Nat))) (k : Nat) : List D := L.map bestD ++ List.replicate k .non
theorem ix_best {L : List (Option (List Nat))} {e p k : Nat} (h1 : p ≤ e) (h2 : p ≠ 0) (h3 : L.length = e) : ixD (.lst (bests L k)) (.int ((e : Int) - (p : Nat))) = some (bestD (L.getD (e - p) none)) := by
  have e1 : ((e : Int) - (p : Nat)) = ((e - p : Nat) : Int) := by omega
  have hl : e - p < L.length := by omega
  have hl2 : e - p < (bests L k).length := by simp [bests]; omega
  show L2.atI (bests L k) _ = _
  rw [e1]
  unfold L2.atI L2.ixN
  rw [if_pos (by omega), if_pos (by omega)]
  show (bests L k)[((e - p : Nat) : Int).toNat]? = _
  rw [Int.toNat_natCast]
  unfold bests
  rw [List.getElem?_append_left (by simp; omega), List.getElem?_map, List.getD_eq_getElem?_getD, List.getElem?_eq_getElem hl]
  rfl
def ibR : SM := (seqS (setS 7 (op2 subD (nameM 3) (mapM1 (consM (nameM 6) (pureM [])) lenD)))
    (ifS (andT (opB neB (nameM 6) (pureM (.str []))) (andT (opB geB (nameM 7) (pureM (.int 0))) (andT (opB eqB (sliceM (nameM 1) (partM (some (nameM 7))) (partM (some (nameM 3)))) (nameM 6)) (opB isntD (op2 ixD (viewM 2) (nameM 7)) (pureM .non)))))
    (appS' 4 (tupM (consM (op2 addD (mapM1 (consM (op2 ixD (viewM 2) (nameM 7)) (pureM [])) lenD) (pureM (.int 1))) (consM (op2 addD (op2 ixD (viewM 2) (nameM 7)) (nameM 5)) (pureM [])))))
    (skipS)))
theorem ibR_ev {w p : List Nat} {L : List (Option (List Nat))} {e k l : Nat} {h : Hand} {c : D} {S : List IP} {x7 : Option Sl} (hP : LenOk L) (hL : L.length = e) (he : e ≤ w.length) (hw : w.length ≤ 40) (hp : p.length ≤ 4) (hS : S.length ≤ 10) :
    ibR [some (.val c), some (.val (.str w)), some (.own (bests L k)), some (.val (.int (e : Nat))), some (.own (S.map ipV)), some (.val (.str [l])), some (.val (.str p)), x7] h
      = .ok .next [some (.val c), some (.val (.str w)), some (.own (bests L k)), some (.val (.int (e : Nat))), some (.own ((S ++ cand w L e p l).map ipV)), some (.val (.str [l])), some (.val (.str p)), some (.val (.int ((e : Int) - (p.length : Nat))))] h := by
  have hb := sz_big
  have ps : p.length ≤ sizeLine := by omega
  have ws : w.length ≤ sizeLine := by omega
  unfold ibR cand mt
  by_cases h0 : p = []
  · subst h0
    simp only [bindM, RE.bind, pureM, lift, nameM, viewM, seqS, RS.seq, skipS, RE.to, setS, setLS, retS, dropS, ifS, andT, orT, notT, andV, orV, notV, ifM, valT, opB, op2, consM, mapM1, blM, callM, handM, isHnd, handGet, handSet, hstS, lstM, tupM, frzS, frzE, intD, absD, List.getElem?_cons_zero, List.getElem?_cons_succ, List.set_cons_succ, List.set_cons_zero, lenD, ps, if_true, subD, neS, beq_self_eq_true, Bool.not_true, Bool.false_eq_true, if_false, bne_self_eq_false, Bool.false_and, List.append_nil]
  · have h0' : (p == []) = false := by simpa using h0
    have h0'' : (p != []) = true := by simpa using h0
    by_cases h2 : p.length ≤ e
    · have g0 : (0 : Int) ≤ (e : Int) - (p.length : Nat) := by omega
      by_cases h3 : ((w.drop (e - p.length)).take p.length == p) = true
      · have hi := ix_best (k := k) h2 (fun z => h0 (List.length_eq_zero_iff.mp z)) hL
        cases hg : L.getD (e - p.length) none with
        | none =>
          rw [hg] at hi
          have hn : isntD (bestD none) .non = some false := rfl
          simp only [bindM, RE.bind, pureM, lift, nameM, viewM, seqS, RS.seq, skipS, RE.to, setS, setLS, retS, dropS, ifS, andT, orT, notT, andV, orV, notV, ifM, valT, opB, op2, consM, mapM1, blM, callM, handM, isHnd, handGet, handSet, hstS, lstM, tupM, frzS, frzE, intD, absD, List.getElem?_cons_zero, List.getElem?_cons_succ, List.set_cons_succ, List.set_cons_zero, lenD, ps, if_true, subD, neS, h0', h0'', Bool.not_false, geB, decide_eq_true g0, sliceM, partM, sliceD, ws, cut_at h2 he, eqS, h3, hi, hn, Bool.true_and, h2, decide_true, Bool.false_eq_true, if_false, List.append_nil]
        | some b =>
          rw [hg] at hi
          have hn : isntD (bestD (some b)) .non = some true := rfl
          have hbl : b.length ≤ 40 := by
            have hi2 : L[e - p.length]? = some (some b) := by
              rw [List.getD_eq_getElem?_getD] at hg
              cases z : L[e - p.length]? with
              | none => rw [z] at hg; cases hg
              | some o => rw [z] at hg; rw [show o = some b from hg]
            have := hP _ _ hi2
            omega
          have hbs : b.length ≤ sizeLine := by omega
          have hbs1 : b.length + 1 ≤ sizeLine := by omega
          have s2 : (2 : Nat) ≤ sizeLine := by omega
          generalize hf : tupM (consM (op2 addD (mapM1 (consM (op2 ixD (viewM 2) (nameM 7)) (pureM [])) lenD) (pureM (.int 1))) (consM (op2 addD (op2 ixD (viewM 2) (nameM 7)) (nameM 5)) (pureM []))) = f
          have fe : f [some (.val c), some (.val (.str w)), some (.own (bests L k)), some (.val (.int (e : Nat))), some (.own (S.map ipV)), some (.val (.str [l])), some (.val (.str p)), some (.val (.int ((e : Int) - (p.length : Nat))))] h = .ok (.tup [.int (((b.length + 1 : Nat) : Int)), .str (b ++ [l])]) h := by
            rw [← hf]
            have hc1 : ((b.length : Nat) : Int) + 1 = ((b.length + 1 : Nat) : Int) := by omega
            simp only [bindM, RE.bind, pureM, lift, nameM, viewM, seqS, RS.seq, skipS, RE.to, setS, setLS, retS, dropS, ifS, andT, orT, notT, andV, orV, notV, ifM, valT, opB, op2, consM, mapM1, blM, callM, handM, isHnd, handGet, handSet, hstS, lstM, tupM, frzS, frzE, intD, absD, List.getElem?_cons_zero, List.getElem?_cons_succ, hi, bestD, lenD, hbs, if_true, addD, hbs1, List.length_cons, List.length_nil, Nat.zero_add, Nat.reduceAdd, s2, hc1]
          have ap := appS_ev (i := 4) (ds := S.map ipV) rfl fe (by simp; omega)
          simp only [bindM, RE.bind, pureM, lift, nameM, viewM, seqS, RS.seq, skipS, RE.to, setS, setLS, retS, dropS, ifS, andT, orT, notT, andV, orV, notV, ifM, valT, opB, op2, consM, mapM1, blM, callM, handM, isHnd, handGet, handSet, hstS, lstM, tupM, frzS, frzE, intD, absD, List.getElem?_cons_zero, List.getElem?_cons_succ, List.set_cons_succ, List.set_cons_zero, lenD, ps, if_true, subD, neS, h0', h0'', Bool.not_false, geB, decide_eq_true g0, sliceM, partM, sliceD, ws, cut_at h2 he, eqS, h3, hi, hn, Bool.true_and, h2, decide_true, ap, List.map_append, List.map_cons, List.map_nil, ipV]
      · simp only [bindM, RE.bind, pureM, lift, nameM, viewM, seqS, RS.seq, skipS, RE.to, setS, setLS, retS, dropS, ifS, andT, orT, notT, andV, orV, notV, ifM, valT, opB, op2, consM, mapM1, blM, callM, handM, isHnd, handGet, handSet, hstS, lstM, tupM, frzS, frzE, intD, absD, List.getElem?_cons_zero, List.getElem?_cons_succ, List.set_cons_succ, List.set_cons_zero, lenD, ps, if_true, subD, neS, h0', h0'', Bool.not_false, geB, decide_eq_true g0, sliceM, partM, sliceD, ws, cut_at h2 he, eqS, h3, Bool.true_and, h2, decide_true, Bool.false_eq_true, if_false, List.append_nil, Bool.and_false]
    · have g0 : ¬ (0 : Int) ≤ (e : Int) - (p.length : Nat) := by omega
      simp only [bindM, RE.bind, pureM, lift, nameM, viewM, seqS, RS.seq, skipS, RE.to, setS, setLS, retS, dropS, ifS, andT, orT, notT, andV, orV, notV, ifM, valT, opB, op2, consM, mapM1, blM, callM, handM, isHnd, handGet, handSet, hstS, lstM, tupM, frzS, frzE, intD, absD, List.getElem?_cons_zero, List.getElem?_cons_succ, List.set_cons_succ, List.set_cons_zero, lenD, ps, if_true, subD, neS, h0', h0'', Bool.not_false, geB, decide_eq_false g0, Bool.false_eq_true, if_false, h2, decide_false, Bool.false_and, Bool.and_false, List.append_nil]
theorem ipsD_map : ∀ ps : List IP, ipsD (ps.map ipV) = some ps
  | [] => rfl
  | (i, l) :: ps => by
    show (ipsD (ps.map ipV)).map ((i, l) :: ·) = _
    rw [ipsD_map ps]
    rfl
theorem set_best {L : List (Option (List Nat))} {e k : Nat} {o : Option (List Nat)} (hL : L.length = e) : (bests L (k + 1)).set e (bestD o) = bests (L ++ [o]) k := by
  unfold bests
  rw [List.set_append_right _ _ (by simp; omega), List.replicate_succ]
  simp [hL]
theorem stS_ev {i : Nat} {fk f : EM D} {ρ : En} {h h1 h2 : Hand} {ds : List D} {d : D} {k : Int} {j : Nat} (e1 : ρ[i]? = some (some (.own ds))) (e2 : f ρ h = .ok d h1) (e3 : fk ρ h1 = .ok (.int k) h2) (e4 : L2.ixN ds.length k = some j) : stS i fk f ρ h = .ok .next (ρ.set i (some (.own (ds.set j d)))) h2 := by
  have eo : ownAt i ρ = some ds := by unfold ownAt; rw [e1]
  unfold stS
  simp only [eo, e2, e3, RE.to, e4]
def obR : SM := (seqS (setLS 4 (lstM (pureM [])))
    (seqS (forS (mapM1 (consM (pureM (.str [97, 98])) (consM (nameM 0) (pureM []))) zipS) (tgT 2 (tgCons (tgN 5) (tgCons (tgN 6) (tgNil)))) ibR)
    (stS 2 (nameM 3) (ifM (opB gtB (mapM1 (consM (viewM 4) (pureM [])) lenD) (pureM (.int 0))) (op2 ixD (mapM1 (consM (viewM 4) (pureM [])) minPD) (pureM (.int 1))) (pureM .non)))))
theorem obR_ev {c0 c1 w : List Nat} {L : List (Option (List Nat))} {e k : Nat} {h : Hand} {x4 x5 x6 x7 : Option Sl} (c : Cd c0 c1) (hP : LenOk L) (hL : L.length = e) (he : e ≤ w.length) (hw : w.length ≤ 40) :
    ∃ y4 y5 y6 y7, obR [some (.val (.tup [.str c0, .str c1])), some (.val (.str w)), some (.own (bests L (k + 1))), some (.val (.int (e : Nat))), x4, x5, x6, x7] h
      = .ok .next [some (.val (.tup [.str c0, .str c1])), some (.val (.str w)), some (.own (bests (L ++ [fB c0 c1 w L e]) k)), some (.val (.int (e : Nat))), y4, y5, y6, y7] h := by
  have s0 : (0 : Nat) ≤ sizeLine := Nat.zero_le _
  have a1 := ibR_ev (k := k + 1) (l := 97) (h := h) (c := .tup [.str c0, .str c1]) (S := []) (x7 := x7) hP hL he hw c.2.2.1 (by simp)
  have lc : (cand w L e c0 97).length ≤ 1 := by unfold cand; split; split <;> simp; simp
  have a2 := ibR_ev (k := k + 1) (l := 98) (h := h) (c := .tup [.str c0, .str c1]) (S := [] ++ cand w L e c0 97) (x7 := some (.val (.int ((e : Int) - (c0.length : Nat))))) hP hL he hw c.2.2.2 (by simp; omega)
  rw [List.nil_append] at a1 a2
  have lc2 : (cand w L e c1 98).length ≤ 1 := by unfold cand; split; split <;> simp; simp
  generalize hf : (ifM (opB gtB (mapM1 (consM (viewM 4) (pureM [])) lenD) (pureM (.int 0))) (op2 ixD (mapM1 (consM (viewM 4) (pureM [])) minPD) (pureM (.int 1))) (pureM .non)) = f
  refine ⟨some (.own ((cand w L e c0 97 ++ cand w L e c1 98).map ipV)), some (.val (.str [98])), some (.val (.str c1)), some (.val (.int ((e : Int) - (c1.length : Nat)))), ?_⟩
  have fe : f [some (.val (.tup [.str c0, .str c1])), some (.val (.str w)), some (.own (bests L (k + 1))), some (.val (.int (e : Nat))), some (.own ((cand w L e c0 97 ++ cand w L e c1 98).map ipV)), some (.val (.str [98])), some (.val (.str c1)), some (.val (.int ((e : Int) - (c1.length : Nat))))] h = .ok (bestD (fB c0 c1 w L e)) h := by
    rw [← hf]
    unfold fB
    cases hx : cand w L e c0 97 ++ cand w L e c1 98 with
    | nil =>
      have l0 : lenD [.lst []] = some (.int 0) := rfl
      have g0 : gtB (.int 0) (.int 0) = some false := rfl
      simp only [bindM, RE.bind, pureM, lift, nameM, viewM, seqS, RS.seq, skipS, RE.to, setS, setLS, retS, dropS, ifS, andT, orT, notT, andV, orV, notV, ifM, valT, opB, op2, consM, mapM1, blM, callM, handM, isHnd, handGet, handSet, hstS, lstM, tupM, frzS, frzE, intD, absD, List.getElem?_cons_zero, List.getElem?_cons_succ, List.map_nil, l0, g0, Bool.false_eq_true, if_false, bestD]
    | cons p ps =>
      have l0 : lenD [.lst ((p :: ps).map ipV)] = some (.int (((p :: ps).map ipV).length : Nat)) := rfl
      have g0 : gtB (.int (((p :: ps).map ipV).length : Nat)) (.int 0) = some true := by
        show some (decide _) = _
        rw [decide_eq_true]
        simp
      have m0 : minPD [.lst ((p :: ps).map ipV)] = some (ipV (minIP p ps)) := by
        show (match ipsD ((p :: ps).map ipV) with | some (p :: ps) => some (ipV (minIP p ps)) | _ => none) = _
        rw [ipsD_map]
      have i0 : ixD (ipV (minIP p ps)) (.int 1) = some (.str (minIP p ps).2) := rfl
      generalize (p :: ps).map ipV = M at l0 g0 m0 ⊢
      simp only [bindM, RE.bind, pureM, lift, nameM, viewM, seqS, RS.seq, skipS, RE.to, setS, setLS, retS, dropS, ifS, andT, orT, notT, andV, orV, notV, ifM, valT, opB, op2, consM, mapM1, blM, callM, handM, isHnd, handGet, handSet, hstS, lstM, tupM, frzS, frzE, intD, absD, List.getElem?_cons_zero, List.getElem?_cons_succ, l0, g0, if_true, m0, i0, bestD]
  have ixn : L2.ixN (bests L (k + 1)).length (e : Nat) = some e := by
    unfold L2.ixN
    rw [if_pos (by omega), if_pos (by simp [bests]; omega)]
    simp
  have st := stS_ev (i := 2) (fk := nameM 3) (f := f) (ρ := [some (.val (.tup [.str c0, .str c1])), some (.val (.str w)), some (.own (bests L (k + 1))), some (.val (.int (e : Nat))), some (.own ((cand w L e c0 97 ++ cand w L e c1 98).map ipV)), some (.val (.str [98])), some (.val (.str c1)), some (.val (.int ((e : Int) - (c1.length : Nat))))]) (h := h) (h1 := h) (h2 := h) (ds := bests L (k + 1)) (d := bestD (fB c0 c1 w L e)) rfl fe rfl ixn
  rw [set_best hL] at st
  have z1 : zipS [.str [97, 98], .tup [.str c0, .str c1]] = some [.tup [.str [97], .str c0], .tup [.str [98], .str c1]] := rfl
  unfold obR
  rw [hf]
  generalize ibR = ib at a1 a2 ⊢
  simp only [bindM, RE.bind, pureM, lift, nameM, viewM, seqS, RS.seq, skipS, RE.to, setS, setLS, retS, dropS, ifS, andT, orT, notT, andV, orV, notV, ifM, valT, opB, op2, consM, mapM1, blM, callM, handM, isHnd, handGet, handSet, hstS, lstM, tupM, frzS, frzE, intD, absD, forS, loopS, tgT, tgCons, tgN, tgNil, Option.bind_some, List.getElem?_cons_zero, List.getElem?_cons_succ, List.set_cons_succ, List.set_cons_zero, List.length_nil, List.length_cons, Nat.zero_add, Nat.reduceAdd, s0, if_true, z1]
  simp only [List.map_nil] at a1
  simp only [a1, a2, List.set_cons_succ, List.set_cons_zero]
  exact st
end G66

set_option Elab.async false
set_option linter.all false
set_option maxRecDepth 100000
set_option maxHeartbeats 4000000
namespace G66
open PySem DL
theorem read_loop {c0 c1 w : List Nat} {h : Hand} (c : Cd c0 c1) (hw : w.length ≤ 40) : ∃ x3 x4 x5 x6 x7, loopS (tgN 3) obR (rangeD 1 w.length) [some (.val (.tup [.str c0, .str c1])), some (.val (.str w)), some (.own (bests [some []] w.length)), none, none, none, none, none] h
    = .ok .next [some (.val (.tup [.str c0, .str c1])), some (.val (.str w)), some (.own (bests (build (some []) (fB c0 c1 w) w.length) 0)), x3, x4, x5, x6, x7] h := by
  obtain ⟨ρ', e1, x3, x4, x5, x6, x7, e2⟩ := loop_rng (g := tgN 3) (b := obR) (lo := 1) (h := h) (fun i ρ => ∃ x3 x4 x5 x6 x7, ρ = [some (.val (.tup [.str c0, .str c1])), some (.val (.str w)), some (.own (bests (build (some []) (fB c0 c1 w) i) (w.length - i))), x3, x4, x5, x6, x7]) w.length 0
    [some (.val (.tup [.str c0, .str c1])), some (.val (.str w)), some (.own (bests [some []] w.length)), none, none, none, none, none] (fun i ρ _ hi ⟨x3, x4, x5, x6, x7, e⟩ => by
      subst e
      obtain ⟨y4, y5, y6, y7, e2⟩ := obR_ev (h := h) (k := w.length - (i + 1)) (x4 := x4) (x5 := x5) (x6 := x6) (x7 := x7) c (build_ok (c0 := c0) (c1 := c1) (w := w) i) (build_len _ _ i) (by omega) hw
      have ek : w.length - (i + 1) + 1 = w.length - i := by omega
      rw [ek] at e2
      have ei : (1 : Int) + (i : Nat) = ((i + 1 : Nat) : Int) := by omega
      exact ⟨_, _, rfl, by rw [ei]; exact e2, _, _, _, _, _, rfl⟩) ⟨none, none, none, none, none, rfl⟩
  rw [Nat.zero_add] at e2
  rw [← rangeD_eq, e2, Nat.sub_self] at e1
  exact ⟨x3, x4, x5, x6, x7, e1⟩
def lastB (c0 c1 w : List Nat) : Option (List Nat) := (build (some []) (fB c0 c1 w) w.length).getD w.length none
theorem op2_ev {p : D → D → Option D} {f g : EM D} {ρ : En} {h h1 h2 : Hand} {x y z : D} (hf : f ρ h = .ok x h1) (hg : g ρ h1 = .ok y h2) (hp : p x y = some z) : op2 p f g ρ h = .ok z h2 := by
  unfold op2 bindM
  rw [hf]
  show (g ρ h1).bind (fun y h' => lift (p x y) ρ h') = _
  rw [hg]
  show lift (p x y) ρ h2 = _
  rw [hp]
  rfl
theorem rep_flat {α : Type} (x : α) : ∀ n, (List.replicate n [x]).flatten = List.replicate n x
  | 0 => rfl
  | n + 1 => by rw [List.replicate_succ, List.flatten_cons, rep_flat x n, List.replicate_succ]; rfl
theorem rep_non {n : Nat} (hn : n ≤ 40) : repD (.lst [.non]) (.int (n : Nat)) = some (.lst (List.replicate n .non)) := by
  have hb := sz_big
  have e : (List.replicate ((n : Nat) : Int).toNat [D.non]).flatten = List.replicate n .non := by rw [Int.toNat_natCast, rep_flat]
  rw [← e]
  unfold repD
  simp only []
  rw [if_pos]
  refine ⟨by omega, by omega, ?_⟩
  rw [Int.toNat_natCast]
  simp
  omega
theorem cat_best {n : Nat} (hn : n ≤ 40) : catD (.lst [.str []]) (.lst (List.replicate n .non)) = some (.lst (bests [some []] n)) := by
  have hb := sz_big
  unfold catD
  simp only []
  rw [if_pos (by simp; omega)]
  rfl
theorem F_read {c0 c1 w : List Nat} {h : Hand} (c : Cd c0 c1) (hw : Wd w) (hl : w.length ≤ 40) : F_read_back [.tup [.str c0, .str c1], .str w] h = .ok (bestD (lastB c0 c1 w)) h := by
  have hb := sz_big
  obtain ⟨x3, x4, x5, x6, x7, e1⟩ := read_loop (h := h) c hl
  have hlen := build_len (some []) (fB c0 c1 w) w.length
  have hi : ixD (.lst (bests (build (some []) (fB c0 c1 w) w.length) 0)) (.int (-1)) = some (bestD (lastB c0 c1 w)) := by
    show L2.atI (bests _ 0) (-1) = _
    rw [ix_last (n := w.length) (by simp [bests, hlen])]
    unfold lastB bests
    rw [List.replicate_zero, List.append_nil, List.getElem?_map, List.getD_eq_getElem?_getD, List.getElem?_eq_getElem (by omega)]
    rfl
  have k1 := F_chkcode (h := h) c
  have k2 := F_chkword (m := 40) (h := h) hw (by omega) (by omega)
  generalize bests (build (some []) (fB c0 c1 w) w.length) 0 = B at e1 hi
  generalize bestD (lastB c0 c1 w) = r at hi ⊢
  have ws : w.length ≤ sizeLine := by omega
  have l1 : lenD [.str w] = some (.int (w.length : Nat)) := if_pos ws
  have a1 : addD (.int (w.length : Nat)) (.int 1) = some (.int (((w.length : Nat) : Int) + 1)) := rfl
  have er := rng_ev (n := w.length) (by omega)
  have s0 : op2 catD (lstM (consM (pureM (.str [])) (pureM []))) (op2 repD (lstM (consM (pureM .non) (pureM []))) (mapM1 (consM (nameM 1) (pureM [])) lenD)) [some (.val (.tup [.str c0, .str c1])), some (.val (.str w)), none, none, none, none, none, none] h = .ok (.lst (bests [some []] w.length)) h := by
    have h1 : (1 : Nat) ≤ sizeLine := by omega
    refine op2_ev (x := .lst [.str []]) (y := .lst (List.replicate w.length .non)) (h1 := h) ?_ (op2_ev (x := .lst [.non]) (y := .int (w.length : Nat)) (h1 := h) ?_ ?_ (rep_non hl)) (cat_best hl)
    · simp only [bindM, RE.bind, pureM, lift, nameM, viewM, seqS, RS.seq, skipS, RE.to, setS, setLS, retS, dropS, ifS, andT, orT, notT, andV, orV, notV, ifM, valT, opB, op2, consM, mapM1, blM, callM, handM, isHnd, handGet, handSet, hstS, lstM, tupM, frzS, frzE, intD, absD, List.length_cons, List.length_nil, Nat.zero_add, h1, if_true]
    · simp only [bindM, RE.bind, pureM, lift, nameM, viewM, seqS, RS.seq, skipS, RE.to, setS, setLS, retS, dropS, ifS, andT, orT, notT, andV, orV, notV, ifM, valT, opB, op2, consM, mapM1, blM, callM, handM, isHnd, handGet, handSet, hstS, lstM, tupM, frzS, frzE, intD, absD, List.length_cons, List.length_nil, Nat.zero_add, h1, if_true]
    · simp only [bindM, RE.bind, pureM, lift, nameM, viewM, seqS, RS.seq, skipS, RE.to, setS, setLS, retS, dropS, ifS, andT, orT, notT, andV, orV, notV, ifM, valT, opB, op2, consM, mapM1, blM, callM, handM, isHnd, handGet, handSet, hstS, lstM, tupM, frzS, frzE, intD, absD, List.getElem?_cons_zero, List.getElem?_cons_succ, l1]
  generalize ((((w.length : Nat) : Int) + 1) : Int) = n1 at a1 er
  have s2 : mapM1 (consM (pureM (.int 1)) (consM (op2 addD (mapM1 (consM (nameM 1) (pureM [])) lenD) (pureM (.int 1))) (pureM []))) rng2 [some (.val (.tup [.str c0, .str c1])), some (.val (.str w)), some (.own (bests [some []] w.length)), none, none, none, none, none] h = .ok (rangeD 1 w.length) h := by
    refine map_ev (a := [.int 1, .int n1]) ?_ er
    simp only [bindM, RE.bind, pureM, lift, nameM, viewM, seqS, RS.seq, skipS, RE.to, setS, setLS, retS, dropS, ifS, andT, orT, notT, andV, orV, notV, ifM, valT, opB, op2, consM, mapM1, blM, callM, handM, isHnd, handGet, handSet, hstS, lstM, tupM, frzS, frzE, intD, absD, List.getElem?_cons_zero, List.getElem?_cons_succ, l1, a1]
  show fnD 8 B_read_back _ h = _
  unfold fnD
  rw [show en0 8 [.tup [.str c0, .str c1], .str w] = [some (.val (.tup [.str c0, .str c1])), some (.val (.str w)), none, none, none, none, none, none] from rfl]
  have e0 : B_read_back = seqS (dropS (callM F_check_code (consM (nameM 0) (pureM [])))) (seqS (dropS (callM F_check_word (consM (nameM 1) (consM (pureM (.int 40)) (pureM []))))) (seqS (setLS 2 (op2 catD (lstM (consM (pureM (.str [])) (pureM []))) (op2 repD (lstM (consM (pureM .non) (pureM []))) (mapM1 (consM (nameM 1) (pureM [])) lenD)))) (seqS (forS (mapM1 (consM (pureM (.int 1)) (consM (op2 addD (mapM1 (consM (nameM 1) (pureM [])) lenD) (pureM (.int 1))) (pureM []))) rng2) (tgN 3) obR) (retS (op2 ixD (viewM 2) (negM (pureM (.int 1)))))))) := rfl
  rw [e0]
  generalize op2 catD (lstM (consM (pureM (.str [])) (pureM []))) (op2 repD (lstM (consM (pureM .non) (pureM []))) (mapM1 (consM (nameM 1) (pureM [])) lenD)) = f0 at s0 ⊢
  generalize mapM1 (consM (pureM (.int 1)) (consM (op2 addD (mapM1 (consM (nameM 1) (pureM [])) lenD) (pureM (.int 1))) (pureM []))) rng2 = f2 at s2 ⊢
  generalize rangeD 1 w.length = rg at s2 e1
  generalize obR = ob at e1 ⊢
  generalize bests [some []] w.length = B0 at s0 s2 e1
  simp only [bindM, RE.bind, pureM, lift, nameM, viewM, seqS, RS.seq, skipS, RE.to, setS, setLS, retS, dropS, ifS, andT, orT, notT, andV, orV, notV, ifM, valT, opB, op2, consM, mapM1, blM, callM, handM, isHnd, handGet, handSet, hstS, lstM, tupM, frzS, frzE, intD, absD, forS, s0, s2, e1, k1, k2, negM, hi, List.set_cons_succ, List.set_cons_zero, List.getElem?_cons_zero, List.getElem?_cons_succ, Int.reduceNeg]
end G66

set_option Elab.async false
set_option linter.all false
set_option maxRecDepth 100000
set_option maxHeartbeats 4000000
namespace G66
open PySem DL
theorem sz_big2 : (4000000 : Nat) ≤ sizeLine := by decide
/-- the words that lead to w's first e signs -/
def putR (w : List Nat) (L : List (List (List Nat))) (e : Nat) (p : List Nat) (l : Nat) : List (List Nat) := if mt w p e = true then (L.getD (e - p.length) []).map (· ++ [l]) else []
def fR (c0 c1 w : List Nat) (L : List (List (List Nat))) (e : Nat) : List (List Nat) := putR w L e c0 97 ++ putR w L e c1 98
def RowOk (L : List (List (List Nat))) : Prop := ∀ (i : Nat) (R : List (List Nat)), L[i]? = some R → R.length ≤ 2 ^ i ∧ ∀ r ∈ R, r.length ≤ i
theorem getD_row {L : List (List (List Nat))} {i : Nat} (hP : RowOk L) : (L.getD i []).length ≤ 2 ^ i ∧ ∀ r ∈ L.getD i [], r.length ≤ i := by
  rw [List.getD_eq_getElem?_getD]
  cases z : L[i]? with
  | none => exact ⟨Nat.zero_le _, fun r hr => by cases hr⟩
  | some R => exact hP i R z
theorem putR_ok {w p : List Nat} {L : List (List (List Nat))} {e l : Nat} (hP : RowOk L) (he : 1 ≤ e) : (putR w L e p l).length ≤ 2 ^ (e - 1) ∧ ∀ r ∈ putR w L e p l, r.length ≤ e := by
  unfold putR
  by_cases m : mt w p e = true
  · rw [if_pos m]
    obtain ⟨h1, h2⟩ := mt_len m
    obtain ⟨g1, g2⟩ := getD_row (i := e - p.length) hP
    refine ⟨?_, fun r hr => ?_⟩
    · rw [List.length_map]
      exact Nat.le_trans g1 (Nat.pow_le_pow_right (by decide) (by omega))
    · obtain ⟨q, hq, rfl⟩ := List.mem_map.mp hr
      have := g2 q hq
      simp
      omega
  · rw [if_neg m]
    exact ⟨Nat.zero_le _, fun r hr => by cases hr⟩
theorem fR_ok {c0 c1 w : List Nat} {L : List (List (List Nat))} {e : Nat} (hP : RowOk L) (he : 1 ≤ e) : (fR c0 c1 w L e).length ≤ 2 ^ e ∧ ∀ r ∈ fR c0 c1 w L e, r.length ≤ e := by
  obtain ⟨a1, a2⟩ := putR_ok (w := w) (p := c0) (l := 97) hP he
  obtain ⟨b1, b2⟩ := putR_ok (w := w) (p := c1) (l := 98) hP he
  refine ⟨?_, fun r hr => (List.mem_append.mp hr).elim (a2 r) (b2 r)⟩
  unfold fR
  rw [List.length_append]
  have : 2 ^ e = 2 ^ (e - 1) + 2 ^ (e - 1) := by
    obtain ⟨k, rfl⟩ : ∃ k, e = k + 1 := ⟨e - 1, by omega⟩
    rw [Nat.pow_succ]
    simp
    omega
  omega
theorem buildR_ok {c0 c1 w : List Nat} : ∀ n, RowOk (build [[]] (fR c0 c1 w) n)
  | 0 => fun i R h => by
    rcases i with _ | i
    · have h : some ([[]] : List (List Nat)) = some R := h
      cases h
      exact ⟨by simp, fun r hr => by rw [List.mem_singleton.mp hr]; exact Nat.le_refl _⟩
    · cases h
  | n + 1 => fun i R h => by
    have ih := buildR_ok (c0 := c0) (c1 := c1) (w := w) n
    have hl := build_len [[]] (fR c0 c1 w) n
    rw [build] at h
    by_cases hi : i < n + 1
    · rw [List.getElem?_append_left (by omega)] at h
      exact ih i R h
    · rw [List.getElem?_append_right (by omega), hl] at h
      have : i = n + 1 := by
        by_cases z : i - (n + 1) = 0
        · omega
        · rw [List.getElem?_eq_none (by simp; omega)] at h; cases h
      subst this
      rw [Nat.sub_self] at h
      have h : some (fR c0 c1 w (build [[]] (fR c0 c1 w) n) (n + 1)) = some R := h
      cases h
      exact fR_ok ih (by omega)
def strsL (R : List (List Nat)) : List D := R.map .str
def rowsD (L : List (List (List Nat))) : List D := L.map fun R => .lst (strsL R)
theorem ix_rows {L : List (List (List Nat))} {e p : Nat} (h1 : p ≤ e) (h2 : p ≠ 0) (h3 : L.length = e) : ixD (.lst (rowsD L)) (.int ((e : Int) - (p : Nat))) = some (.lst (strsL (L.getD (e - p) []))) := by
  have e1 : ((e : Int) - (p : Nat)) = ((e - p : Nat) : Int) := by omega
  have hl : e - p < L.length := by omega
  show L2.atI (rowsD L) _ = _
  rw [e1]
  unfold L2.atI L2.ixN
  rw [if_pos (by omega), if_pos (by simp [rowsD]; omega)]
  show (rowsD L)[((e - p : Nat) : Int).toNat]? = _
  rw [Int.toNat_natCast]
  unfold rowsD
  rw [List.getElem?_map, List.getD_eq_getElem?_getD, List.getElem?_eq_getElem hl]
  rfl
theorem pow_20 {e : Nat} (h : e ≤ 20) : 2 ^ e ≤ 1048576 := Nat.le_trans (Nat.pow_le_pow_right (by decide) h) (by decide)
def ibL : SM := (ifS (andT (opB leB (mapM1 (consM (nameM 8) (pureM [])) lenD) (nameM 4)) (opB eqB (sliceM (nameM 1) (partM (some (op2 subD (nameM 4) (mapM1 (consM (nameM 8) (pureM [])) lenD)))) (partM (some (nameM 4)))) (nameM 8)))
    (setS 6 (op2 catD (nameM 6) (compM (seqItems (op2 ixD (viewM 3) (op2 subD (nameM 4) (mapM1 (consM (nameM 8) (pureM [])) lenD)))) (tgN 9) [9] (pureM true) (op2 addD (nameM 9) (nameM 7)))))
    (skipS))
theorem ibL_ev {w p : List Nat} {L : List (List (List Nat))} {e l : Nat} {h : Hand} {c : D} {R : List (List Nat)} {x2 x5 x9 : Option Sl} (hp0 : p ≠ []) (hP : RowOk L) (hL : L.length = e) (he1 : 1 ≤ e) (he : e ≤ w.length) (hw : w.length ≤ 20) (hp : p.length ≤ 4) (hR : R.length ≤ 1048576) :
    ∃ y9, ibL [some (.val c), some (.val (.str w)), x2, some (.own (rowsD L)), some (.val (.int (e : Nat))), x5, some (.val (.lst (strsL R))), some (.val (.str [l])), some (.val (.str p)), x9] h
      = .ok .next [some (.val c), some (.val (.str w)), x2, some (.own (rowsD L)), some (.val (.int (e : Nat))), x5, some (.val (.lst (strsL (R ++ putR w L e p l)))), some (.val (.str [l])), some (.val (.str p)), y9] h := by
  have hb := sz_big2
  have ps : p.length ≤ sizeLine := by omega
  have ws : w.length ≤ sizeLine := by omega
  have h0'' : (p != []) = true := by simpa using hp0
  have l1 : lenD [.str p] = some (.int (p.length : Nat)) := if_pos ps
  unfold ibL putR mt
  by_cases h2 : p.length ≤ e
  · by_cases h3 : ((w.drop (e - p.length)).take p.length == p) = true
    · obtain ⟨g1, g2⟩ := getD_row (i := e - p.length) hP
      have g3 : (L.getD (e - p.length) []).length ≤ 1048576 := Nat.le_trans g1 (pow_20 (by omega))
      have hi := ix_rows h2 (fun z => hp0 (List.length_eq_zero_iff.mp z)) hL
      generalize L.getD (e - p.length) [] = S at g2 g3 hi ⊢
      have s1 : (strsL S).length ≤ sizeLine := by simp [strsL]; omega
      generalize hee : op2 addD (nameM 9) (nameM 7) = ee
      have cm := comp_all (g := tgN 9) (t := pureM true) (e := ee) (ρ := [some (.val c), some (.val (.str w)), x2, some (.own (rowsD L)), some (.val (.int (e : Nat))), x5, some (.val (.lst (strsL R))), some (.val (.str [l])), some (.val (.str p)), none]) (h := h) (fun d => match d with | .str r => .str (r ++ [l]) | d => d) (strsL S) (fun d hd => by
        obtain ⟨r, hr, rfl⟩ := List.mem_map.mp hd
        have hr1 : r.length + 1 ≤ sizeLine := by have := g2 r hr; omega
        refine ⟨_, rfl, rfl, ?_⟩
        rw [← hee]
        simp only [bindM, RE.bind, pureM, lift, nameM, viewM, seqS, RS.seq, skipS, RE.to, setS, setLS, retS, dropS, ifS, andT, orT, notT, andV, orV, notV, ifM, valT, opB, op2, consM, mapM1, blM, callM, handM, isHnd, handGet, handSet, hstS, lstM, tupM, frzS, frzE, intD, absD, List.set_cons_succ, List.set_cons_zero, List.getElem?_cons_zero, List.getElem?_cons_succ, addD, List.length_cons, List.length_nil, Nat.zero_add, hr1, if_true])
      have cm2 : (strsL S).map (fun d => match d with | .str r => .str (r ++ [l]) | d => d) = strsL (S.map (· ++ [l])) := by
        unfold strsL
        rw [List.map_map, List.map_map]
        rfl
      rw [cm2] at cm
      have ct : catD (.lst (strsL R)) (.lst (strsL (S.map (· ++ [l])))) = some (.lst (strsL (R ++ S.map (· ++ [l])))) := by
        show (if _ then some (D.lst _) else none) = _
        rw [if_pos (by simp [strsL]; omega)]
        simp [strsL]
      generalize strsL (S.map (· ++ [l])) = M at cm ct
      generalize strsL S = S' at hi s1 cm
      refine ⟨x9, ?_⟩
      simp only [bindM, RE.bind, pureM, lift, nameM, viewM, seqS, RS.seq, skipS, RE.to, setS, setLS, retS, dropS, ifS, andT, orT, notT, andV, orV, notV, ifM, valT, opB, op2, consM, mapM1, blM, callM, handM, isHnd, handGet, handSet, hstS, lstM, tupM, frzS, frzE, intD, absD, compM, seqItems, wipeE, List.getElem?_cons_zero, List.getElem?_cons_succ, List.set_cons_succ, List.set_cons_zero, l1, leB, show ((p.length : Nat) : Int) ≤ (e : Int) by omega, decide_true, if_true, sliceM, partM, subD, sliceD, ws, cut_at h2 he, eqS, h3, hi, s1, cm, ct, h0'', h2, Bool.and_self]
    · refine ⟨x9, ?_⟩
      simp only [bindM, RE.bind, pureM, lift, nameM, viewM, seqS, RS.seq, skipS, RE.to, setS, setLS, retS, dropS, ifS, andT, orT, notT, andV, orV, notV, ifM, valT, opB, op2, consM, mapM1, blM, callM, handM, isHnd, handGet, handSet, hstS, lstM, tupM, frzS, frzE, intD, absD, List.getElem?_cons_zero, List.getElem?_cons_succ, List.set_cons_succ, List.set_cons_zero, l1, leB, show ((p.length : Nat) : Int) ≤ (e : Int) by omega, decide_true, if_true, sliceM, partM, subD, sliceD, ws, cut_at h2 he, eqS, h3, Bool.and_false, Bool.false_eq_true, if_false, List.append_nil]
  · refine ⟨x9, ?_⟩
    simp only [bindM, RE.bind, pureM, lift, nameM, viewM, seqS, RS.seq, skipS, RE.to, setS, setLS, retS, dropS, ifS, andT, orT, notT, andV, orV, notV, ifM, valT, opB, op2, consM, mapM1, blM, callM, handM, isHnd, handGet, handSet, hstS, lstM, tupM, frzS, frzE, intD, absD, List.getElem?_cons_zero, List.getElem?_cons_succ, List.set_cons_succ, List.set_cons_zero, l1, leB, show ¬ ((p.length : Nat) : Int) ≤ (e : Int) by omega, decide_false, Bool.false_eq_true, if_false, h2, Bool.and_false, Bool.false_and, List.append_nil]
end G66

set_option Elab.async false
set_option linter.all false
set_option maxRecDepth 100000
set_option maxHeartbeats 4000000
namespace G66
open PySem DL
def prt (l : Nat) (p : List Nat) : List D := if p = [] then [] else [.tup [.str [l], .str p]]
def parts (c0 c1 : List Nat) : List D := prt 97 c0 ++ prt 98 c1
def obL : SM := (seqS (setS 6 (lstM (pureM [])))
    (seqS (frzS 2 (forS (seqItems (nameM 2)) (tgT 2 (tgCons (tgN 7) (tgCons (tgN 8) (tgNil)))) ibL))
    (appS' 3 (nameM 6))))
theorem putR_nil {w : List Nat} {L : List (List (List Nat))} {e l : Nat} : putR w L e [] l = [] := by
  unfold putR mt
  rw [if_neg (by simp)]
/-- one letter's turn, or none where it stands for nothing -/
theorem turn_ev {w p : List Nat} {L : List (List (List Nat))} {e l : Nat} {h : Hand} {c : D} {R : List (List Nat)} {x2 x5 x7 x8 x9 : Option Sl} (hP : RowOk L) (hL : L.length = e) (he1 : 1 ≤ e) (he : e ≤ w.length) (hw : w.length ≤ 20) (hp : p.length ≤ 4) (hR : R.length ≤ 1048576) (rest : List D) :
    ∃ y7 y8 y9, loopS (tgT 2 (tgCons (tgN 7) (tgCons (tgN 8) (tgNil)))) ibL (prt l p ++ rest) [some (.val c), some (.val (.str w)), x2, some (.own (rowsD L)), some (.val (.int (e : Nat))), x5, some (.val (.lst (strsL R))), x7, x8, x9] h
      = loopS (tgT 2 (tgCons (tgN 7) (tgCons (tgN 8) (tgNil)))) ibL rest [some (.val c), some (.val (.str w)), x2, some (.own (rowsD L)), some (.val (.int (e : Nat))), x5, some (.val (.lst (strsL (R ++ putR w L e p l)))), y7, y8, y9] h := by
  by_cases h0 : p = []
  · subst h0
    refine ⟨x7, x8, x9, ?_⟩
    rw [putR_nil, List.append_nil]
    rfl
  · obtain ⟨y9, e1⟩ := ibL_ev (h := h) (c := c) (l := l) (x2 := x2) (x5 := x5) (x9 := x9) h0 hP hL he1 he hw hp hR
    refine ⟨some (.val (.str [l])), some (.val (.str p)), y9, ?_⟩
    unfold prt
    rw [if_neg h0]
    generalize ibL = ib at e1 ⊢
    show loopS _ ib (.tup [.str [l], .str p] :: rest) _ h = _
    simp only [loopS, tgT, tgCons, tgN, tgNil, Option.bind_some, List.length_cons, List.length_nil, Nat.zero_add, Nat.reduceAdd, if_true, List.set_cons_succ, List.set_cons_zero, e1]
theorem obL_ev {c0 c1 w : List Nat} {L : List (List (List Nat))} {e : Nat} {h : Hand} {x2 x5 x6 x7 x8 x9 : Option Sl} (c : Cd c0 c1) (hx : x2 = some (.own (parts c0 c1)) ∨ x2 = some (.val (.lst (parts c0 c1)))) (hP : RowOk L) (hL : L.length = e) (he1 : 1 ≤ e) (he : e ≤ w.length) (hw : w.length ≤ 20) :
    ∃ y6 y7 y8 y9, obL [some (.val (.tup [.str c0, .str c1])), some (.val (.str w)), x2, some (.own (rowsD L)), some (.val (.int (e : Nat))), x5, x6, x7, x8, x9] h
      = .ok .next [some (.val (.tup [.str c0, .str c1])), some (.val (.str w)), some (.val (.lst (parts c0 c1))), some (.own (rowsD (L ++ [fR c0 c1 w L e]))), some (.val (.int (e : Nat))), x5, y6, y7, y8, y9] h := by
  have s0 : (0 : Nat) ≤ sizeLine := Nat.zero_le _
  obtain ⟨a7, a8, a9, e1⟩ := turn_ev (h := h) (c := .tup [.str c0, .str c1]) (R := []) (x2 := some (.val (.lst (parts c0 c1)))) (x5 := x5) (x7 := x7) (x8 := x8) (x9 := x9) (l := 97) hP hL he1 he hw c.2.2.1 (by simp) (prt 98 c1)
  have g := putR_ok (w := w) (p := c0) (l := 97) hP he1
  obtain ⟨b7, b8, b9, e2⟩ := turn_ev (h := h) (c := .tup [.str c0, .str c1]) (R := [] ++ putR w L e c0 97) (x2 := some (.val (.lst (parts c0 c1)))) (x5 := x5) (x7 := a7) (x8 := a8) (x9 := a9) (l := 98) hP hL he1 he hw c.2.2.2 (by rw [List.nil_append]; exact Nat.le_trans g.1 (pow_20 (by omega))) []
  rw [List.append_nil] at e2
  rw [e2, List.nil_append] at e1
  have e3 : loopS (tgT 2 (tgCons (tgN 7) (tgCons (tgN 8) (tgNil)))) ibL (parts c0 c1) [some (.val (.tup [.str c0, .str c1])), some (.val (.str w)), some (.val (.lst (parts c0 c1))), some (.own (rowsD L)), some (.val (.int (e : Nat))), x5, some (.val (.lst [])), x7, x8, x9] h
      = .ok .next [some (.val (.tup [.str c0, .str c1])), some (.val (.str w)), some (.val (.lst (parts c0 c1))), some (.own (rowsD L)), some (.val (.int (e : Nat))), x5, some (.val (.lst (strsL (fR c0 c1 w L e)))), b7, b8, b9] h := e1
  have ap := appS_ev (i := 3) (f := nameM 6) (ρ := [some (.val (.tup [.str c0, .str c1])), some (.val (.str w)), some (.val (.lst (parts c0 c1))), some (.own (rowsD L)), some (.val (.int (e : Nat))), x5, some (.val (.lst (strsL (fR c0 c1 w L e)))), b7, b8, b9]) (h := h) (ds := rowsD L) rfl rfl (by simp [rowsD]; omega)
  have e4 : rowsD L ++ [.lst (strsL (fR c0 c1 w L e))] = rowsD (L ++ [fR c0 c1 w L e]) := by simp [rowsD]
  rw [e4] at ap
  refine ⟨some (.val (.lst (strsL (fR c0 c1 w L e)))), b7, b8, b9, ?_⟩
  unfold obL
  generalize ibL = ib at e3 ⊢
  generalize parts c0 c1 = pa at hx e3 ap ⊢
  rcases hx with rfl | rfl
  · simp only [bindM, RE.bind, pureM, lift, nameM, viewM, seqS, RS.seq, skipS, RE.to, setS, setLS, retS, dropS, ifS, andT, orT, notT, andV, orV, notV, ifM, valT, opB, op2, consM, mapM1, blM, callM, handM, isHnd, handGet, handSet, hstS, lstM, tupM, frzS, frzE, intD, absD, forS, seqItems, List.length_nil, s0, if_true, List.getElem?_cons_zero, List.getElem?_cons_succ, List.set_cons_succ, List.set_cons_zero, e3]
    exact ap
  · simp only [bindM, RE.bind, pureM, lift, nameM, viewM, seqS, RS.seq, skipS, RE.to, setS, setLS, retS, dropS, ifS, andT, orT, notT, andV, orV, notV, ifM, valT, opB, op2, consM, mapM1, blM, callM, handM, isHnd, handGet, handSet, hstS, lstM, tupM, frzS, frzE, intD, absD, forS, seqItems, List.length_nil, s0, if_true, List.getElem?_cons_zero, List.getElem?_cons_succ, List.set_cons_succ, List.set_cons_zero, e3]
    exact ap
theorem back_loop {c0 c1 w : List Nat} {h : Hand} (c : Cd c0 c1) (hw : w.length ≤ 20) : ∃ x2 x4 x6 x7 x8 x9, (x2 = some (.own (parts c0 c1)) ∨ x2 = some (.val (.lst (parts c0 c1)))) ∧ loopS (tgN 4) obL (rangeD 1 w.length) [some (.val (.tup [.str c0, .str c1])), some (.val (.str w)), some (.own (parts c0 c1)), some (.own (rowsD [[[]]])), none, none, none, none, none, none] h
    = .ok .next [some (.val (.tup [.str c0, .str c1])), some (.val (.str w)), x2, some (.own (rowsD (build [[]] (fR c0 c1 w) w.length))), x4, none, x6, x7, x8, x9] h := by
  obtain ⟨ρ', e1, x2, x4, x6, x7, x8, x9, hx, e2⟩ := loop_rng (g := tgN 4) (b := obL) (lo := 1) (h := h) (fun i ρ => ∃ x2 x4 x6 x7 x8 x9, (x2 = some (.own (parts c0 c1)) ∨ x2 = some (.val (.lst (parts c0 c1)))) ∧ ρ = [some (.val (.tup [.str c0, .str c1])), some (.val (.str w)), x2, some (.own (rowsD (build [[]] (fR c0 c1 w) i))), x4, none, x6, x7, x8, x9]) w.length 0
    [some (.val (.tup [.str c0, .str c1])), some (.val (.str w)), some (.own (parts c0 c1)), some (.own (rowsD [[[]]])), none, none, none, none, none, none] (fun i ρ _ hi ⟨x2, x4, x6, x7, x8, x9, hx, e⟩ => by
      subst e
      obtain ⟨y6, y7, y8, y9, e2⟩ := obL_ev (h := h) (x5 := none) (x6 := x6) (x7 := x7) (x8 := x8) (x9 := x9) c hx (buildR_ok (c0 := c0) (c1 := c1) (w := w) i) (build_len _ _ i) (by omega) (by omega) hw
      have ei : (1 : Int) + (i : Nat) = ((i + 1 : Nat) : Int) := by omega
      exact ⟨_, _, rfl, by rw [ei]; exact e2, _, _, _, _, _, _, .inr rfl, rfl⟩) ⟨_, none, none, none, none, none, .inl rfl, rfl⟩
  rw [Nat.zero_add] at e2
  rw [← rangeD_eq, e2] at e1
  exact ⟨x2, x4, x6, x7, x8, x9, hx, e1⟩
end G66

set_option Elab.async false
set_option linter.all false
set_option maxRecDepth 100000
set_option maxHeartbeats 4000000
namespace G66
open PySem DL
def key (r : List Nat) : IP := (((r.length : Nat) : Int), r)
def lastR (c0 c1 w : List Nat) : List (List Nat) := (build [[]] (fR c0 c1 w) w.length).getD w.length []
def cntD (c0 c1 : List Nat) (n : Nat) : D := if c0 = [] ∨ c1 = [] then .non else .int (n : Nat)
def backR (c0 c1 : List Nat) (R : List (List Nat)) : D := match (R.map key).mergeSort leIP with
  | [] => .tup [.non, .int 0]
  | q :: _ => .tup [.str q.2, cntD c0 c1 R.length]
theorem neE (a : List Nat) : neB (.str a) (.str []) = some (!(a == [])) := rfl
theorem F_backs {c0 c1 w : List Nat} {h : Hand} (c : Cd c0 c1) (hw : w.length ≤ 20) : F__law_backs [.tup [.str c0, .str c1], .str w] h = .ok (backR c0 c1 (lastR c0 c1 w)) h := by
  have hb := sz_big2
  obtain ⟨x2, x4, x6, x7, x8, x9, hx, e1⟩ := back_loop (h := h) c hw
  have hlen := build_len [[]] (fR c0 c1 w) w.length
  have hrow := getD_row (i := w.length) (buildR_ok (c0 := c0) (c1 := c1) (w := w) w.length)
  have hi : ixD (.lst (rowsD (build [[]] (fR c0 c1 w) w.length))) (.int (-1)) = some (.lst (strsL (lastR c0 c1 w))) := by
    show L2.atI (rowsD _) (-1) = _
    rw [ix_last (n := w.length) (by simp [rowsD, hlen])]
    unfold lastR rowsD
    rw [List.getElem?_map, List.getD_eq_getElem?_getD, List.getElem?_eq_getElem (by omega)]
    rfl
  have hR1 : (lastR c0 c1 w).length ≤ 1048576 := Nat.le_trans hrow.1 (pow_20 hw)
  have hR2 : ∀ r ∈ lastR c0 c1 w, r.length ≤ 20 := fun r hr => Nat.le_trans (hrow.2 r hr) hw
  generalize rowsD (build [[]] (fR c0 c1 w) w.length) = B at e1 hi
  generalize lastR c0 c1 w = R at hi hR1 hR2 ⊢
  have ws : w.length ≤ sizeLine := by omega
  have l1 : lenD [.str w] = some (.int (w.length : Nat)) := if_pos ws
  have a1 : addD (.int (w.length : Nat)) (.int 1) = some (.int (((w.length : Nat) : Int) + 1)) := rfl
  have er := rng_ev (n := w.length) (by omega)
  have s1 : (1 : Nat) ≤ sizeLine := by omega
  have s2 : (2 : Nat) ≤ sizeLine := by omega
  -- the letters that stand for something
  have p0 : compM (mapM1 (consM (pureM (.str [97, 98])) (consM (nameM 0) (pureM []))) zipS) (tgT 2 (tgCons (tgN 7) (tgCons (tgN 8) (tgNil)))) [7, 8] (opB neB (nameM 8) (pureM (.str []))) (tupM (consM (nameM 7) (consM (nameM 8) (pureM [])))) [some (.val (.tup [.str c0, .str c1])), some (.val (.str w)), none, none, none, none, none, none, none, none] h = .ok (.lst (parts c0 c1)) h := by
    have z1 : zipS [.str [97, 98], .tup [.str c0, .str c1]] = some [.tup [.str [97], .str c0], .tup [.str [98], .str c1]] := rfl
    unfold parts prt
    by_cases h0 : c0 = []
    · have h0' : (c0 == []) = true := by simpa using h0
      by_cases h1 : c1 = []
      · have h1' : (c1 == []) = true := by simpa using h1
        rw [if_pos h0, if_pos h1]
        simp only [bindM, RE.bind, pureM, lift, nameM, viewM, seqS, RS.seq, skipS, RE.to, setS, setLS, retS, dropS, ifS, andT, orT, notT, andV, orV, notV, ifM, valT, opB, op2, consM, mapM1, blM, callM, handM, isHnd, handGet, handSet, hstS, lstM, tupM, frzS, frzE, intD, absD, compM, compL, z1, wipeE, tgT, tgCons, tgN, tgNil, Option.bind_some, List.length_cons, List.length_nil, Nat.zero_add, Nat.reduceAdd, s2, if_true, List.set_cons_succ, List.set_cons_zero, List.getElem?_cons_zero, List.getElem?_cons_succ, neE, h0', h1', Bool.not_true, Bool.not_false, List.cons_append, List.nil_append, List.append_nil]
      · have h1' : (c1 == []) = false := by simpa using h1
        rw [if_pos h0, if_neg h1]
        simp only [bindM, RE.bind, pureM, lift, nameM, viewM, seqS, RS.seq, skipS, RE.to, setS, setLS, retS, dropS, ifS, andT, orT, notT, andV, orV, notV, ifM, valT, opB, op2, consM, mapM1, blM, callM, handM, isHnd, handGet, handSet, hstS, lstM, tupM, frzS, frzE, intD, absD, compM, compL, z1, wipeE, tgT, tgCons, tgN, tgNil, Option.bind_some, List.length_cons, List.length_nil, Nat.zero_add, Nat.reduceAdd, s2, if_true, List.set_cons_succ, List.set_cons_zero, List.getElem?_cons_zero, List.getElem?_cons_succ, neE, h0', h1', Bool.not_true, Bool.not_false, List.cons_append, List.nil_append, List.append_nil]
    · have h0' : (c0 == []) = false := by simpa using h0
      by_cases h1 : c1 = []
      · have h1' : (c1 == []) = true := by simpa using h1
        rw [if_neg h0, if_pos h1]
        simp only [bindM, RE.bind, pureM, lift, nameM, viewM, seqS, RS.seq, skipS, RE.to, setS, setLS, retS, dropS, ifS, andT, orT, notT, andV, orV, notV, ifM, valT, opB, op2, consM, mapM1, blM, callM, handM, isHnd, handGet, handSet, hstS, lstM, tupM, frzS, frzE, intD, absD, compM, compL, z1, wipeE, tgT, tgCons, tgN, tgNil, Option.bind_some, List.length_cons, List.length_nil, Nat.zero_add, Nat.reduceAdd, s2, if_true, List.set_cons_succ, List.set_cons_zero, List.getElem?_cons_zero, List.getElem?_cons_succ, neE, h0', h1', Bool.not_true, Bool.not_false, List.cons_append, List.nil_append, List.append_nil]
      · have h1' : (c1 == []) = false := by simpa using h1
        rw [if_neg h0, if_neg h1]
        simp only [bindM, RE.bind, pureM, lift, nameM, viewM, seqS, RS.seq, skipS, RE.to, setS, setLS, retS, dropS, ifS, andT, orT, notT, andV, orV, notV, ifM, valT, opB, op2, consM, mapM1, blM, callM, handM, isHnd, handGet, handSet, hstS, lstM, tupM, frzS, frzE, intD, absD, compM, compL, z1, wipeE, tgT, tgCons, tgN, tgNil, Option.bind_some, List.length_cons, List.length_nil, Nat.zero_add, Nat.reduceAdd, s2, if_true, List.set_cons_succ, List.set_cons_zero, List.getElem?_cons_zero, List.getElem?_cons_succ, neE, h0', h1', Bool.not_true, Bool.not_false, List.cons_append, List.nil_append, List.append_nil]
  have p1 : lstM (consM (lstM (consM (pureM (.str [])) (pureM []))) (pureM [])) [some (.val (.tup [.str c0, .str c1])), some (.val (.str w)), some (.own (parts c0 c1)), none, none, none, none, none, none, none] h = .ok (.lst (rowsD [[[]]])) h := by
    simp only [bindM, RE.bind, pureM, lift, nameM, viewM, seqS, RS.seq, skipS, RE.to, setS, setLS, retS, dropS, ifS, andT, orT, notT, andV, orV, notV, ifM, valT, opB, op2, consM, mapM1, blM, callM, handM, isHnd, handGet, handSet, hstS, lstM, tupM, frzS, frzE, intD, absD, List.length_cons, List.length_nil, Nat.zero_add, s1, if_true]
    rfl
  generalize ((((w.length : Nat) : Int) + 1) : Int) = n1 at a1 er
  have p2 : mapM1 (consM (pureM (.int 1)) (consM (op2 addD (mapM1 (consM (nameM 1) (pureM [])) lenD) (pureM (.int 1))) (pureM []))) rng2 [some (.val (.tup [.str c0, .str c1])), some (.val (.str w)), some (.own (parts c0 c1)), some (.own (rowsD [[[]]])), none, none, none, none, none, none] h = .ok (rangeD 1 w.length) h := by
    refine map_ev (a := [.int 1, .int n1]) ?_ er
    simp only [bindM, RE.bind, pureM, lift, nameM, viewM, seqS, RS.seq, skipS, RE.to, setS, setLS, retS, dropS, ifS, andT, orT, notT, andV, orV, notV, ifM, valT, opB, op2, consM, mapM1, blM, callM, handM, isHnd, handGet, handSet, hstS, lstM, tupM, frzS, frzE, intD, absD, List.getElem?_cons_zero, List.getElem?_cons_succ, l1, a1]
  -- the found ones in order
  have p3 : mapM1 (consM (compM (seqItems (op2 ixD (viewM 3) (negM (pureM (.int 1))))) (tgN 9) [9] (pureM true) (tupM (consM (mapM1 (consM (nameM 9) (pureM [])) lenD) (consM (nameM 9) (pureM []))))) (pureM [])) sortedQD [some (.val (.tup [.str c0, .str c1])), some (.val (.str w)), x2, some (.own B), x4, none, x6, x7, x8, x9] h = .ok (.lst (((R.map key).mergeSort leIP).map ipV)) h := by
    refine map_ev (a := [.lst ((R.map key).map ipV)]) ?_ ?_
    · generalize hee : tupM (consM (mapM1 (consM (nameM 9) (pureM [])) lenD) (consM (nameM 9) (pureM []))) = ee
      have cm := comp_all (g := tgN 9) (t := pureM true) (e := ee) (ρ := [some (.val (.tup [.str c0, .str c1])), some (.val (.str w)), x2, some (.own B), x4, none, x6, x7, x8, none]) (h := h) (fun d => match d with | .str r => ipV (key r) | d => d) (strsL R) (fun d hd => by
        obtain ⟨r, hr, rfl⟩ := List.mem_map.mp hd
        have hr1 : r.length ≤ sizeLine := by have := hR2 r hr; omega
        refine ⟨_, rfl, rfl, ?_⟩
        rw [← hee]
        simp only [bindM, RE.bind, pureM, lift, nameM, viewM, seqS, RS.seq, skipS, RE.to, setS, setLS, retS, dropS, ifS, andT, orT, notT, andV, orV, notV, ifM, valT, opB, op2, consM, mapM1, blM, callM, handM, isHnd, handGet, handSet, hstS, lstM, tupM, frzS, frzE, intD, absD, List.set_cons_succ, List.set_cons_zero, List.getElem?_cons_zero, List.getElem?_cons_succ, lenD, List.length_cons, List.length_nil, Nat.zero_add, Nat.reduceAdd, s2, hr1, if_true]
        rfl)
      have cm2 : (strsL R).map (fun d => match d with | .str r => ipV (key r) | d => d) = (R.map key).map ipV := by
        unfold strsL
        rw [List.map_map, List.map_map]
        rfl
      rw [cm2] at cm
      have sR : (strsL R).length ≤ sizeLine := by simp [strsL]; omega
      simp only [bindM, RE.bind, pureM, lift, nameM, viewM, seqS, RS.seq, skipS, RE.to, setS, setLS, retS, dropS, ifS, andT, orT, notT, andV, orV, notV, ifM, valT, opB, op2, consM, mapM1, blM, callM, handM, isHnd, handGet, handSet, hstS, lstM, tupM, frzS, frzE, intD, absD, compM, seqItems, wipeE, negM, List.getElem?_cons_zero, List.getElem?_cons_succ, List.set_cons_succ, List.set_cons_zero, hi, sR, if_true, Int.reduceNeg, cm]
    · show (match ipsD ((R.map key).map ipV) with | some ps => if ps.length ≤ sizeLine then some (D.lst ((ps.mergeSort leIP).map ipV)) else none | none => none) = _
      rw [ipsD_map]
      show (if _ then _ else _) = _
      rw [if_pos (by simp; omega)]
  have pl : lenD [.lst (parts c0 c1)] = some (.int ((parts c0 c1).length : Nat)) := rfl
  have vx : ∀ (y5 : Option Sl), viewM 2 [some (.val (.tup [.str c0, .str c1])), some (.val (.str w)), x2, some (.own B), x4, y5, x6, x7, x8, x9] h = .ok (.lst (parts c0 c1)) h := fun y5 => by
    rcases hx with rfl | rfl <;> rfl
  have pc : eqB (.int ((parts c0 c1).length : Nat)) (.int 2) = some (decide (¬ (c0 = [] ∨ c1 = []))) := by
    rw [eqI]
    unfold parts prt
    by_cases h0 : c0 = [] <;> by_cases h1 : c1 = [] <;> simp [h0, h1]
  have ln : ((R.map key).mergeSort leIP).length = R.length := by rw [List.length_mergeSort, List.length_map]
  show fnD 10 B__law_backs _ h = _
  unfold fnD
  rw [show en0 10 [.tup [.str c0, .str c1], .str w] = [some (.val (.tup [.str c0, .str c1])), some (.val (.str w)), none, none, none, none, none, none, none, none] from rfl]
  have e0 : B__law_backs = seqS (setLS 2 (compM (mapM1 (consM (pureM (.str [97, 98])) (consM (nameM 0) (pureM []))) zipS) (tgT 2 (tgCons (tgN 7) (tgCons (tgN 8) (tgNil)))) [7, 8] (opB neB (nameM 8) (pureM (.str []))) (tupM (consM (nameM 7) (consM (nameM 8) (pureM []))))))
    (seqS (setLS 3 (lstM (consM (lstM (consM (pureM (.str [])) (pureM []))) (pureM []))))
    (seqS (forS (mapM1 (consM (pureM (.int 1)) (consM (op2 addD (mapM1 (consM (nameM 1) (pureM [])) lenD) (pureM (.int 1))) (pureM []))) rng2) (tgN 4) obL)
    (seqS (setS 5 (mapM1 (consM (compM (seqItems (op2 ixD (viewM 3) (negM (pureM (.int 1))))) (tgN 9) [9] (pureM true) (tupM (consM (mapM1 (consM (nameM 9) (pureM [])) lenD) (consM (nameM 9) (pureM []))))) (pureM [])) sortedQD))
    (seqS (ifS (opB eqB (mapM1 (consM (nameM 5) (pureM [])) lenD) (pureM (.int 0))) (retS (tupM (consM (pureM .non) (consM (pureM (.int 0)) (pureM []))))) (skipS))
    (retS (tupM (consM (op2 ixD (op2 ixD (nameM 5) (pureM (.int 0))) (pureM (.int 1))) (consM (ifM (opB eqB (mapM1 (consM (viewM 2) (pureM [])) lenD) (pureM (.int 2))) (mapM1 (consM (nameM 5) (pureM [])) lenD) (pureM .non)) (pureM []))))))))) := rfl
  rw [e0]
  generalize compM (mapM1 (consM (pureM (.str [97, 98])) (consM (nameM 0) (pureM []))) zipS) (tgT 2 (tgCons (tgN 7) (tgCons (tgN 8) (tgNil)))) [7, 8] (opB neB (nameM 8) (pureM (.str []))) (tupM (consM (nameM 7) (consM (nameM 8) (pureM [])))) = f0 at p0 ⊢
  generalize lstM (consM (lstM (consM (pureM (.str [])) (pureM []))) (pureM [])) = f1 at p1 ⊢
  generalize mapM1 (consM (pureM (.int 1)) (consM (op2 addD (mapM1 (consM (nameM 1) (pureM [])) lenD) (pureM (.int 1))) (pureM []))) rng2 = f2 at p2 ⊢
  generalize mapM1 (consM (compM (seqItems (op2 ixD (viewM 3) (negM (pureM (.int 1))))) (tgN 9) [9] (pureM true) (tupM (consM (mapM1 (consM (nameM 9) (pureM [])) lenD) (consM (nameM 9) (pureM []))))) (pureM [])) sortedQD = f3 at p3 ⊢
  generalize rangeD 1 w.length = rg at p2 e1
  generalize obL = ob at e1 ⊢
  generalize rowsD [[[]]] = B0 at p1 p2 e1
  generalize viewM 2 = v2 at vx ⊢
  unfold backR cntD
  generalize hpa : parts c0 c1 = pa at *
  generalize hM : (R.map key).mergeSort leIP = M at p3 ln ⊢
  cases M with
  | nil =>
    have l0 : lenD [.lst (List.map ipV [])] = some (.int 0) := rfl
    simp only [seqS, setLS, setS, RE.to, RS.seq, p0, p1, p2, p3, e1, forS, List.set_cons_succ, List.set_cons_zero, ifS, opB, bindM, RE.bind, mapM1, consM, pureM, lift, nameM, List.getElem?_cons_zero, List.getElem?_cons_succ, l0, eqI, beq_self_eq_true, if_true, retS, tupM, List.length_cons, List.length_nil, Nat.zero_add, Nat.reduceAdd, s2]
  | cons q M =>
    have l0 : lenD [.lst ((q :: M).map ipV)] = some (.int (R.length : Nat)) := by rw [← ln, ← List.length_map ipV]; rfl
    have z0' : (((R.length : Nat) : Int) == 0) = false := by rw [← ln]; simp; omega
    have i0 : ixD (.lst ((q :: M).map ipV)) (.int 0) = some (ipV q) := by
      show L2.atI ((q :: M).map ipV) 0 = _
      unfold L2.atI L2.ixN
      rw [if_pos (by omega), if_pos (by simp <;> omega)]
      rfl
    have i1 : ixD (ipV q) (.int 1) = some (.str q.2) := rfl
    generalize (q :: M).map ipV = M' at p3 l0 i0
    by_cases hc : c0 = [] ∨ c1 = []
    · simp only [seqS, setLS, setS, RE.to, RS.seq, p0, p1, p2, p3, e1, forS, List.set_cons_succ, List.set_cons_zero, ifS, opB, op2, bindM, RE.bind, mapM1, consM, pureM, lift, nameM, List.getElem?_cons_zero, List.getElem?_cons_succ, l0, eqI, z0', Bool.false_eq_true, if_false, skipS, if_true, retS, tupM, ifM, vx, pl, pc, hc, not_true, decide_false, i0, i1, List.length_cons, List.length_nil, Nat.zero_add, Nat.reduceAdd, s2]
    · simp only [seqS, setLS, setS, RE.to, RS.seq, p0, p1, p2, p3, e1, forS, List.set_cons_succ, List.set_cons_zero, ifS, opB, op2, bindM, RE.bind, mapM1, consM, pureM, lift, nameM, List.getElem?_cons_zero, List.getElem?_cons_succ, l0, eqI, z0', Bool.false_eq_true, if_false, skipS, if_true, retS, tupM, ifM, vx, pl, pc, hc, not_false_eq_true, decide_true, i0, i1, List.length_cons, List.length_nil, Nat.zero_add, Nat.reduceAdd, s2]
end G66

set_option Elab.async false
set_option linter.all false
set_option maxRecDepth 100000
set_option maxHeartbeats 4000000
namespace G66
open PySem DL
/-! ### the order of the pairs -/
theorem lex_irr : ∀ a : List Nat, ¬ a < a := fun a => List.lt_irrefl a
theorem lex_tr {a b c : List Nat} (h1 : a < b) (h2 : b < c) : a < c := List.lt_trans h1 h2
theorem lex_tri (a b : List Nat) : a < b ∨ a = b ∨ b < a := by
  by_cases h1 : a < b
  · exact .inl h1
  · by_cases h2 : b < a
    · exact .inr (.inr h2)
    · exact .inr (.inl (List.le_antisymm (List.not_lt.mp h2) (List.not_lt.mp h1)))
theorem le_iff (p q : IP) : leIP p q = true ↔ p.1 < q.1 ∨ (p.1 = q.1 ∧ (p.2 < q.2 ∨ p.2 = q.2)) := by
  unfold leIP ipLt
  by_cases h : q.1 = p.1
  · rw [if_pos h]
    rcases lex_tri p.2 q.2 with z | z | z
    · have n : ¬ q.2 < p.2 := fun y => lex_irr _ (lex_tr z y)
      simp [n, h, z]
    · have n : ¬ q.2 < p.2 := by rw [z]; exact lex_irr _
      simp [n, h, z]
    · have n1 : ¬ p.2 < q.2 := fun y => lex_irr _ (lex_tr z y)
      have n2 : ¬ p.2 = q.2 := fun y => lex_irr _ (y ▸ z)
      simp [z, h, n1, n2]
  · rw [if_neg h]
    have h' : ¬ p.1 = q.1 := fun z => h z.symm
    simp [h']
    omega
theorem le_tr {a b c : IP} (h1 : leIP a b = true) (h2 : leIP b c = true) : leIP a c = true := by
  rw [le_iff] at *
  rcases h1 with h1 | ⟨h1, h1'⟩
  · rcases h2 with h2 | ⟨h2, _⟩ <;> exact .inl (by omega)
  · rcases h2 with h2 | ⟨h2, h2'⟩
    · exact .inl (by omega)
    · refine .inr ⟨by omega, ?_⟩
      rcases h1' with h1' | h1'
      · rcases h2' with h2' | h2'
        · exact .inl (lex_tr h1' h2')
        · exact .inl (h2' ▸ h1')
      · rw [h1']; exact h2'
theorem le_tot (a b : IP) : (leIP a b || leIP b a) = true := by
  rw [Bool.or_eq_true, le_iff, le_iff]
  rcases Int.lt_trichotomy a.1 b.1 with h | h | h
  · exact .inl (.inl h)
  · rcases lex_tri a.2 b.2 with z | z | z
    · exact .inl (.inr ⟨h, .inl z⟩)
    · exact .inl (.inr ⟨h, .inr z⟩)
    · exact .inr (.inr ⟨h.symm, .inl z⟩)
  · exact .inr (.inl h)
theorem le_anti {a b : IP} (h1 : leIP a b = true) (h2 : leIP b a = true) : a = b := by
  rw [le_iff] at *
  rcases h1 with h1 | ⟨h1, h1'⟩
  · rcases h2 with h2 | ⟨h2, _⟩ <;> omega
  · rcases h2 with h2 | ⟨h2, h2'⟩
    · omega
    · have : a.2 = b.2 := by
        rcases h1' with h1' | h1'
        · rcases h2' with h2' | h2'
          · exact absurd (lex_tr h1' h2') (lex_irr _)
          · exact h2'.symm
        · exact h1'
      exact Prod.ext h1 this
theorem le_rf (a : IP) : leIP a a = true := by rw [le_iff]; exact .inr ⟨rfl, .inr rfl⟩
def IsMin (m : IP) (S : List IP) : Prop := m ∈ S ∧ ∀ x ∈ S, leIP m x = true
theorem min_uniq {m m' : IP} {S : List IP} (h : IsMin m S) (h' : IsMin m' S) : m = m' := le_anti (h.2 _ h'.1) (h'.2 _ h.1)
theorem minIP_min : ∀ (p : IP) (ps : List IP), IsMin (minIP p ps) (p :: ps)
  | p, [] => ⟨by simp [minIP], fun x hx => by rw [List.mem_singleton.mp hx]; exact le_rf _⟩
  | p, q :: ps => by
    have e : minIP p (q :: ps) = minIP (if ipLt q p = true then q else p) ps := rfl
    have ih := minIP_min (if ipLt q p = true then q else p) ps
    refine ⟨minIP_mem p (q :: ps), fun x hx => ?_⟩
    rw [e]
    have h0 := ih.2 _ (List.mem_cons_self ..)
    by_cases h : ipLt q p = true
    · rw [if_pos h] at ih h0 ⊢
      have lqp : leIP q p = true := by
        have := le_tot q p
        have n : leIP p q = false := by unfold leIP; rw [h]; rfl
        rw [n, Bool.or_false] at this
        exact this
      rcases List.mem_cons.mp hx with rfl | hx
      · exact le_tr h0 lqp
      · rcases List.mem_cons.mp hx with rfl | hx
        · exact h0
        · exact ih.2 _ (List.mem_cons_of_mem _ hx)
    · rw [if_neg h] at ih h0 ⊢
      have lpq : leIP p q = true := by unfold leIP; simp [h]
      rcases List.mem_cons.mp hx with rfl | hx
      · exact h0
      · rcases List.mem_cons.mp hx with rfl | hx
        · exact le_tr h0 lpq
        · exact ih.2 _ (List.mem_cons_of_mem _ hx)
/-- the least word of a row -/
def mn (R : List (List Nat)) : Option (List Nat) := match R.map key with
  | [] => none
  | p :: ps => some (minIP p ps).2
theorem mn_some {R : List (List Nat)} {r : List Nat} (h : mn R = some r) : r ∈ R ∧ IsMin (key r) (R.map key) := by
  unfold mn at h
  cases hx : R.map key with
  | nil => rw [hx] at h; cases h
  | cons p ps =>
    rw [hx] at h
    have h : some (minIP p ps).2 = some r := h
    cases h
    have hm := minIP_min p ps
    have hk : minIP p ps ∈ R.map key := by rw [hx]; exact hm.1
    obtain ⟨r', hr', e⟩ := List.mem_map.mp hk
    have e2 : (minIP p ps).2 = r' := by rw [← e]; rfl
    rw [e2, e]
    exact ⟨hr', hm⟩
theorem mn_none {R : List (List Nat)} (h : mn R = none) : R = [] := by
  unfold mn at h
  cases hx : R.map key with
  | nil => exact List.map_eq_nil_iff.mp hx
  | cons p ps => rw [hx] at h; cases h
theorem mn_of {R : List (List Nat)} {r : List Nat} (h : IsMin (key r) (R.map key)) : mn R = some r := by
  cases hm : mn R with
  | none => rw [mn_none hm] at h; cases h.1
  | some r' =>
    have e := min_uniq (mn_some hm).2 h
    rw [show r' = r from congrArg Prod.snd e]
theorem lex_snoc {l : Nat} : ∀ {a b : List Nat}, a.length = b.length → (a ++ [l] < b ++ [l] ↔ a < b)
  | [], [], _ => by simp
  | x :: a, y :: b, h => by
    have ih := lex_snoc (l := l) (a := a) (b := b) (by simpa using h)
    rw [List.cons_append, List.cons_append, List.cons_lt_cons_iff, List.cons_lt_cons_iff, ih]
  | [], _ :: _, h => by simp at h
  | _ :: _, [], h => by simp at h
theorem key_snoc {a b : List Nat} {l : Nat} (h : leIP (key a) (key b) = true) : leIP (key (a ++ [l])) (key (b ++ [l])) = true := by
  rw [le_iff] at *
  unfold key at *
  simp only [List.length_append, List.length_cons, List.length_nil] at *
  rcases h with h | ⟨h, h'⟩
  · exact .inl (by omega)
  · refine .inr ⟨by omega, ?_⟩
    rcases h' with h' | h'
    · exact .inl ((lex_snoc (by omega)).mpr h')
    · exact .inr (by rw [h'])
theorem sort_head {R : List (List Nat)} {q : IP} {M : List IP} (h : (R.map key).mergeSort leIP = q :: M) : mn R = some q.2 := by
  have perm := List.mergeSort_perm (R.map key) leIP
  have srt := List.pairwise_mergeSort (le := leIP) (fun a b c => le_tr) le_tot (R.map key)
  rw [h] at perm srt
  have hq : q ∈ R.map key := perm.mem_iff.mp (List.mem_cons_self ..)
  obtain ⟨r, hr, e⟩ := List.mem_map.mp hq
  have e2 : q.2 = r := by rw [← e]; rfl
  rw [e2]
  refine mn_of ⟨by rw [e]; exact hq, fun x hx => ?_⟩
  rw [e]
  rcases List.mem_cons.mp (perm.mem_iff.mpr hx) with rfl | hx
  · exact le_rf _
  · exact (List.pairwise_cons.mp srt).1 _ hx
end G66

set_option Elab.async false
set_option linter.all false
set_option maxRecDepth 100000
set_option maxHeartbeats 4000000
namespace G66
open PySem DL
theorem getD_map {α β : Type} (g : α → β) (L : List α) (i : Nat) (a : α) : (L.map g).getD i (g a) = g (L.getD i a) := by
  rw [List.getD_eq_getElem?_getD, List.getD_eq_getElem?_getD, List.getElem?_map]
  cases L[i]? <;> rfl
theorem put_len (w : List Nat) (L : List (List (List Nat))) (e : Nat) (p : List Nat) (l : Nat) : (putR w L e p l).length = if mt w p e = true then (L.map List.length).getD (e - p.length) 0 else 0 := by
  unfold putR
  have := getD_map List.length L (e - p.length) []
  rw [show (List.length ([] : List (List Nat))) = 0 from rfl] at this
  rw [this]
  split
  · rw [List.length_map]
  · rfl
theorem lastN_eq (c0 c1 w : List Nat) : lastN c0 c1 w = (lastR c0 c1 w).length := by
  have h := build_map List.length (a0 := [[]]) (f := fR c0 c1 w) (f' := fC c0 c1 w) (fun L e _ _ => by
    unfold fR fC
    rw [List.length_append, put_len, put_len]) w.length
  unfold lastN lastR
  have h' : (build [[]] (fR c0 c1 w) w.length).map List.length = build 1 (fC c0 c1 w) w.length := h
  rw [← h']
  exact getD_map List.length _ _ []
/-- what a letter's turn gives: the row's words, the least of them -/
theorem cand_min {w : List Nat} {L : List (List (List Nat))} {e : Nat} {p : List Nat} {l : Nat} :
    (∀ q ∈ cand w (L.map mn) e p l, q ∈ (putR w L e p l).map key) ∧ ∀ x ∈ (putR w L e p l).map key, ∃ q ∈ cand w (L.map mn) e p l, leIP q x = true := by
  unfold cand putR
  by_cases m : mt w p e = true
  · rw [if_pos m, if_pos m]
    have g := getD_map mn L (e - p.length) []
    rw [show mn [] = none from rfl] at g
    rw [g]
    generalize L.getD (e - p.length) [] = S
    cases hm : mn S with
    | none =>
      rw [mn_none hm]
      exact ⟨(fun q hq => nomatch hq), (fun x hx => nomatch hx)⟩
    | some b =>
      obtain ⟨h1, h2⟩ := mn_some hm
      have hk : ((((b.length + 1 : Nat) : Int)), b ++ [l]) = key (b ++ [l]) := by unfold key; simp
      refine ⟨fun q hq => ?_, fun x hx => ⟨_, List.mem_singleton.mpr rfl, ?_⟩⟩
      · rw [List.mem_singleton.mp hq, hk]
        exact List.mem_map.mpr ⟨_, List.mem_map.mpr ⟨b, h1, rfl⟩, rfl⟩
      · obtain ⟨r', hr', rfl⟩ := List.mem_map.mp hx
        obtain ⟨r, hr, rfl⟩ := List.mem_map.mp hr'
        rw [hk]
        exact key_snoc (h2.2 _ (List.mem_map.mpr ⟨r, hr, rfl⟩))
  · rw [if_neg m, if_neg m]
    exact ⟨(fun q hq => nomatch hq), (fun x hx => nomatch hx)⟩
theorem fB_min (c0 c1 w : List Nat) (L : List (List (List Nat))) (e : Nat) : mn (fR c0 c1 w L e) = fB c0 c1 w (L.map mn) e := by
  have a := cand_min (w := w) (L := L) (e := e) (p := c0) (l := 97)
  have b := cand_min (w := w) (L := L) (e := e) (p := c1) (l := 98)
  have sub : ∀ q ∈ cand w (L.map mn) e c0 97 ++ cand w (L.map mn) e c1 98, q ∈ (fR c0 c1 w L e).map key := fun q hq => by
    unfold fR
    rw [List.map_append]
    exact (List.mem_append.mp hq).elim (fun z => List.mem_append_left _ (a.1 q z)) (fun z => List.mem_append_right _ (b.1 q z))
  have dom : ∀ x ∈ (fR c0 c1 w L e).map key, ∃ q ∈ cand w (L.map mn) e c0 97 ++ cand w (L.map mn) e c1 98, leIP q x = true := fun x hx => by
    unfold fR at hx
    rw [List.map_append] at hx
    rcases List.mem_append.mp hx with hx | hx
    · obtain ⟨q, h1, h2⟩ := a.2 x hx
      exact ⟨q, List.mem_append_left _ h1, h2⟩
    · obtain ⟨q, h1, h2⟩ := b.2 x hx
      exact ⟨q, List.mem_append_right _ h1, h2⟩
  unfold fB
  cases hx : cand w (L.map mn) e c0 97 ++ cand w (L.map mn) e c1 98 with
  | nil =>
    rw [hx] at dom
    have : (fR c0 c1 w L e) = [] := by
      cases hf : fR c0 c1 w L e with
      | nil => rfl
      | cons r R =>
        obtain ⟨q, hq, _⟩ := dom (key r) (by rw [hf]; simp)
        cases hq
    rw [this]
    rfl
  | cons p ps =>
    rw [hx] at sub dom
    have hm := minIP_min p ps
    have hk := sub _ hm.1
    obtain ⟨r, hr, er⟩ := List.mem_map.mp hk
    show _ = some (minIP p ps).2
    rw [← er]
    show mn _ = some r
    refine mn_of ⟨List.mem_map.mpr ⟨r, hr, rfl⟩, fun x hx => ?_⟩
    obtain ⟨q, hq, hle⟩ := dom x hx
    rw [er]
    exact le_tr (hm.2 _ hq) hle
theorem lastB_eq (c0 c1 w : List Nat) : lastB c0 c1 w = mn (lastR c0 c1 w) := by
  have h := build_map mn (a0 := [[]]) (f := fR c0 c1 w) (f' := fB c0 c1 w) (fun L e _ _ => fB_min c0 c1 w L e) w.length
  have h' : (build [[]] (fR c0 c1 w) w.length).map mn = build (some []) (fB c0 c1 w) w.length := h
  unfold lastB lastR
  rw [← h']
  exact getD_map mn _ _ []
def manyD (c0 c1 : List Nat) (n : Nat) : D := if 0 < n ∧ hasE c0 c1 = true then .non else .int (n : Nat)
theorem back_eq (c0 c1 w : List Nat) : backR c0 c1 (lastR c0 c1 w) = .tup [bestD (lastB c0 c1 w), manyD c0 c1 (lastN c0 c1 w)] := by
  rw [lastB_eq, lastN_eq]
  generalize lastR c0 c1 w = R
  unfold backR manyD
  have hl : ((R.map key).mergeSort leIP).length = R.length := by rw [List.length_mergeSort, List.length_map]
  cases hx : (R.map key).mergeSort leIP with
  | nil =>
    rw [hx] at hl
    have : R = [] := List.length_eq_zero_iff.mp hl.symm
    subst this
    rw [if_neg (by simp)]
    rfl
  | cons q M =>
    rw [hx] at hl
    have hp : 0 < R.length := by rw [← hl]; simp
    rw [sort_head hx]
    show D.tup [.str q.2, cntD c0 c1 R.length] = D.tup [.str q.2, _]
    unfold cntD hasE
    by_cases h0 : c0 = []
    · simp [h0, hp]
    · by_cases h1 : c1 = []
      · simp [h1, hp]
      · simp [h0, h1]
end G66

set_option Elab.async false
set_option linter.all false
set_option maxRecDepth 100000
set_option maxHeartbeats 4000000
namespace G66
open PySem DL
/-! ### _law_is -/
theorem beq_rf : ∀ d : D, scB d = true → beq d d = true
  | .non, _ => rfl
  | .bl b, _ => by simp [beq]
  | .int i, _ => by simp [beq]
  | .str l, _ => by simp [beq]
  | .tup _, h => by cases h
  | .lst _, h => by cases h
  | .hnd, h => by cases h
theorem isN (d : D) (h : scB d = true) (hn : d ≠ .non) : isD d .non = some false := by
  cases d <;> first | rfl | exact absurd rfl hn | cases h
theorem sc_eq (d : D) (h : scB d = true) : eqB d d = some true := by
  have : scalD d d = true := by cases d <;> first | rfl | cases h
  show (if scalD d d = true ∨ (good d = true ∧ good d = true) then some (beq d d) else none) = _
  rw [if_pos (.inl this), beq_rf d h]
theorem ne_bl (a b : Bool) : neB (.bl a) (.bl b) = some (!(a == b)) := rfl
theorem eq_bl (a b : Bool) : eqB (.bl a) (.bl b) = some (a == b) := rfl
theorem is_sc (T : String) (d : D) (h : scB d = true) (hT : T = "tuple" ∨ T = "list" ∨ T = "bool" ∨ T = "int" ∨ T = "str") : ∃ b, isiD T d = some (.bl b) ∧ (T = "tuple" → b = false) ∧ (T = "list" → b = false) := by
  rcases hT with rfl | rfl | rfl | rfl | rfl <;> cases d <;> first | exact ⟨_, rfl, fun _ => rfl, fun _ => rfl⟩ | exact ⟨_, rfl, (fun z => absurd z (by decide)), (fun z => absurd z (by decide))⟩ | cases h
theorem is_1 {d : D} {h : Hand} (hs : scB d = true) : F__law_is_1 [d, d] h = .ok (.bl true) h := by
  by_cases hn : d = .non
  · subst hn; rfl
  · have i0 := isN d hs hn
    obtain ⟨b1, e1, z1, _⟩ := is_sc "tuple" d hs (.inl rfl)
    obtain ⟨b2, e2, _, z2⟩ := is_sc "list" d hs (.inr (.inl rfl))
    obtain ⟨b3, e3, _⟩ := is_sc "bool" d hs (.inr (.inr (.inl rfl)))
    obtain ⟨b4, e4, _⟩ := is_sc "int" d hs (.inr (.inr (.inr (.inl rfl))))
    obtain ⟨b5, e5, _⟩ := is_sc "str" d hs (.inr (.inr (.inr (.inr rfl))))
    rw [z1 rfl] at e1
    rw [z2 rfl] at e2
    have e6 := sc_eq d hs
    show fnD 4 B__law_is_1 [d, d] h = _
    unfold fnD
    rw [show en0 4 [d, d] = [some (.val d), some (.val d), none, none] from rfl]
    unfold B__law_is_1
    simp only [bindM, RE.bind, pureM, lift, nameM, viewM, seqS, RS.seq, skipS, RE.to, setS, setLS, retS, dropS, ifS, andT, orT, notT, andV, orV, notV, ifM, valT, opB, op2, consM, mapM1, blM, callM, handM, isHnd, handGet, handSet, hstS, lstM, tupM, frzS, frzE, intD, absD, List.getElem?_cons_zero, List.getElem?_cons_succ, i0, e1, e2, e3, e4, e5, e6, Bool.false_eq_true, if_false, ne_bl, eq_bl, beq_self_eq_true, Bool.not_true]
theorem is_s {d : D} {h : Hand} (hs : scB d = true) : F__law_is [d, d] h = .ok (.bl true) h := by
  by_cases hn : d = .non
  · subst hn; rfl
  · have i0 := isN d hs hn
    obtain ⟨b1, e1, z1, _⟩ := is_sc "tuple" d hs (.inl rfl)
    obtain ⟨b2, e2, _, z2⟩ := is_sc "list" d hs (.inr (.inl rfl))
    obtain ⟨b3, e3, _⟩ := is_sc "bool" d hs (.inr (.inr (.inl rfl)))
    obtain ⟨b4, e4, _⟩ := is_sc "int" d hs (.inr (.inr (.inr (.inl rfl))))
    obtain ⟨b5, e5, _⟩ := is_sc "str" d hs (.inr (.inr (.inr (.inr rfl))))
    rw [z1 rfl] at e1
    rw [z2 rfl] at e2
    have e6 := sc_eq d hs
    show fnD 4 B__law_is [d, d] h = _
    unfold fnD
    rw [show en0 4 [d, d] = [some (.val d), some (.val d), none, none] from rfl]
    unfold B__law_is
    simp only [bindM, RE.bind, pureM, lift, nameM, viewM, seqS, RS.seq, skipS, RE.to, setS, setLS, retS, dropS, ifS, andT, orT, notT, andV, orV, notV, ifM, valT, opB, op2, consM, mapM1, blM, callM, handM, isHnd, handGet, handSet, hstS, lstM, tupM, frzS, frzE, intD, absD, List.getElem?_cons_zero, List.getElem?_cons_succ, i0, e1, e2, e3, e4, e5, e6, Bool.false_eq_true, if_false, ne_bl, eq_bl, beq_self_eq_true, Bool.not_true]
theorem zip_same {a b : D} : ∀ {ds : List D}, (a, b) ∈ ds.zip ds → a = b
  | [], h => by cases h
  | d :: ds, h => by
    rw [List.zip_cons_cons] at h
    rcases List.mem_cons.mp h with z | z
    · cases z; rfl
    · exact zip_same z
theorem pair_comp {ds : List D} {h : Hand} {x0 x1 : Option Sl} (hs : ∀ d ∈ ds, scB d = true) : compL (tgT 2 (tgCons (tgN 2) (tgCons (tgN 3) (tgNil)))) (pureM true) (callM F__law_is_1 (consM (nameM 2) (consM (nameM 3) (pureM [])))) [x0, x1, none, none] (pairsD ds ds) h = .ok ((pairsD ds ds).map fun _ => .bl true) h :=
  comp_all (fun _ => .bl true) (pairsD ds ds) fun p hp => by
    unfold pairsD at hp
    obtain ⟨⟨a, b⟩, hz, rfl⟩ := List.mem_map.mp hp
    have hab : a = b := zip_same hz
    subst hab
    have ha : scB a = true := hs a (List.of_mem_zip hz).1
    refine ⟨_, rfl, rfl, ?_⟩
    have := is_1 (h := h) ha
    simp only [callM, consM, bindM, RE.bind, nameM, pureM, List.set_cons_succ, List.set_cons_zero, List.getElem?_cons_zero, List.getElem?_cons_succ]
    exact this
theorem all_true (n : List D) : allD [.lst (n.map fun _ => .bl true)] = some (.bl true) := by
  show (blsD _).map _ = _
  rw [bls_map (fun _ => true)]
  simp
theorem is_l {ds : List D} {h : Hand} (hs : ∀ d ∈ ds, scB d = true) (hl : ds.length ≤ 1000) : F__law_is [.lst ds, .lst ds] h = .ok (.bl true) h := by
  have hb := sz_big
  have e1 : isiD "tuple" (.lst ds) = some (.bl false) := rfl
  have e2 : isiD "list" (.lst ds) = some (.bl true) := rfl
  have i0 : isD (.lst ds) .non = some false := rfl
  have l0 : lenD [.lst ds] = some (.int (ds.length : Nat)) := rfl
  have z0 : zipS [.lst ds, .lst ds] = some (pairsD ds ds) := rfl
  have sp : (pairsD ds ds).length ≤ sizeLine := by simp [pairsD]; omega
  have cm := pair_comp (h := h) (x0 := some (.val (.lst ds))) (x1 := some (.val (.lst ds))) hs
  have al := all_true (pairsD ds ds)
  show fnD 4 B__law_is [.lst ds, .lst ds] h = _
  unfold fnD
  rw [show en0 4 [.lst ds, .lst ds] = [some (.val (.lst ds)), some (.val (.lst ds)), none, none] from rfl]
  unfold B__law_is
  generalize callM F__law_is_1 (consM (nameM 2) (consM (nameM 3) (pureM []))) = ee at cm ⊢
  generalize (pairsD ds ds).map (fun _ => D.bl true) = M at cm al
  simp only [bindM, RE.bind, pureM, lift, nameM, viewM, seqS, RS.seq, skipS, RE.to, setS, setLS, retS, dropS, ifS, andT, orT, notT, andV, orV, notV, ifM, valT, opB, op2, consM, mapM1, blM, callM, handM, isHnd, handGet, handSet, hstS, lstM, tupM, frzS, frzE, intD, absD, compM, wipeE, List.set_cons_succ, List.set_cons_zero, List.getElem?_cons_zero, List.getElem?_cons_succ, i0, e1, e2, Bool.false_eq_true, if_false, if_true, ne_bl, beq_self_eq_true, Bool.not_true, l0, eqI, z0, sp, cm, al]
theorem is_t {ds : List D} {h : Hand} (hs : ∀ d ∈ ds, scB d = true) (hl : ds.length ≤ 1000) : F__law_is [.tup ds, .tup ds] h = .ok (.bl true) h := by
  have hb := sz_big
  have e1 : isiD "tuple" (.tup ds) = some (.bl true) := rfl
  have e2 : isiD "list" (.tup ds) = some (.bl false) := rfl
  have i0 : isD (.tup ds) .non = some false := rfl
  have l0 : lenD [.tup ds] = some (.int (ds.length : Nat)) := rfl
  have z0 : zipS [.tup ds, .tup ds] = some (pairsD ds ds) := by cases ds with | nil => rfl | cons a l => rfl
  have sp : (pairsD ds ds).length ≤ sizeLine := by simp [pairsD]; omega
  have cm := pair_comp (h := h) (x0 := some (.val (.tup ds))) (x1 := some (.val (.tup ds))) hs
  have al := all_true (pairsD ds ds)
  show fnD 4 B__law_is [.tup ds, .tup ds] h = _
  unfold fnD
  rw [show en0 4 [.tup ds, .tup ds] = [some (.val (.tup ds)), some (.val (.tup ds)), none, none] from rfl]
  unfold B__law_is
  generalize callM F__law_is_1 (consM (nameM 2) (consM (nameM 3) (pureM []))) = ee at cm ⊢
  generalize (pairsD ds ds).map (fun _ => D.bl true) = M at cm al
  simp only [bindM, RE.bind, pureM, lift, nameM, viewM, seqS, RS.seq, skipS, RE.to, setS, setLS, retS, dropS, ifS, andT, orT, notT, andV, orV, notV, ifM, valT, opB, op2, consM, mapM1, blM, callM, handM, isHnd, handGet, handSet, hstS, lstM, tupM, frzS, frzE, intD, absD, compM, wipeE, List.set_cons_succ, List.set_cons_zero, List.getElem?_cons_zero, List.getElem?_cons_succ, i0, e1, e2, Bool.false_eq_true, if_false, if_true, ne_bl, beq_self_eq_true, Bool.not_true, l0, eqI, z0, sp, cm, al]
end G66

set_option Elab.async false
set_option linter.all false
set_option maxRecDepth 100000
set_option maxHeartbeats 4000000
namespace G66
open PySem DL
/-! ### is_sure_told, _law_is_two -/
def sureT : D := .tup [.str [115, 117, 114, 101]]
def twoT (a b : List Nat) : D := .tup [.str [116, 119, 111], .str a, .str b]
def Wds (w : List Nat) : Prop := Wd w ∧ w.length ≤ 12
def same (c0 c1 a b : List Nat) : Bool := !(a == b) && (img c0 c1 a == img c0 c1 b)
theorem img_b {c0 c1 w : List Nat} (c : Cd c0 c1) (h : Wds w) : (img c0 c1 w).length ≤ 100000 := by
  have := img_len c w
  have := h.2
  omega
theorem Wd_fine {w : List Nat} (h : Wd w) : w.all (· < 0x110000) = true := List.all_eq_true.mpr fun c hc => by
  rcases h c hc with rfl | rfl <;> rfl
theorem two_good {a b : List Nat} (ha : Wd a) (hb : Wd b) : good (twoT a b) = true := by
  have h1 := Wd_fine ha
  have h2 := Wd_fine hb
  show (fine (twoT a b) && decide (dep (twoT a b) ≤ 64)) = true
  have f : fine (twoT a b) = true := by
    show ((true) && (a.all (· < 0x110000) && (b.all (· < 0x110000) && true))) = true
    rw [h1, h2]
    rfl
  rw [f]
  rfl
theorem eq_two {a b : List Nat} (ha : Wd a) (hb : Wd b) : eqB (twoT a b) sureT = some false := by
  show (if scalD (twoT a b) sureT = true ∨ (good (twoT a b) = true ∧ good sureT = true) then some (beq (twoT a b) sureT) else none) = _
  rw [if_pos (.inr ⟨two_good ha hb, rfl⟩)]
  rfl
theorem F_two {c0 c1 a b : List Nat} {h : Hand} (c : Cd c0 c1) (ha : Wds a) (hb : Wds b) : F__law_is_two [.tup [.str c0, .str c1], twoT a b] h = .ok (.bl (same c0 c1 a b)) h := by
  have sb := sz_big
  have i1 := F_limg (c0 := c0) (c1 := c1) (h := h) ha.1 (by have := ha.2; omega) (img_b c ha)
  have i2 := F_limg (c0 := c0) (c1 := c1) (h := h) hb.1 (by have := hb.2; omega) (img_b c hb)
  have t0 : isiD "tuple" (twoT a b) = some (.bl true) := rfl
  have l0 : lenD [twoT a b] = some (.int 3) := rfl
  have x0 : ixD (twoT a b) (.int 0) = some (.str [116, 119, 111]) := rfl
  have x1 : ixD (twoT a b) (.int 1) = some (.str a) := rfl
  have x2 : ixD (twoT a b) (.int 2) = some (.str b) := rfl
  have n0 : neB (.int 3) (.int 3) = some false := rfl
  have n1 : neB (.str [116, 119, 111]) (.str [116, 119, 111]) = some false := rfl
  have sl : sliceD (twoT a b) (some 1) none = some (.tup [.str a, .str b]) := rfl
  have body : ∀ (w : List Nat) (x3 : Option Sl), Wds w → (ifS (orT (notT (valT (mapM1 (nameM 2) (isiD "str")))) (orT (opB gtB (mapM1 (consM (nameM 2) (pureM [])) lenD) (pureM (.int 12))) (notT (valT (mapM1 (consM (compM (seqItems (nameM 2)) (tgN 3) [3] (pureM true) (blM (opB inB (nameM 3) (pureM (.str [97, 98]))))) (pureM [])) allD)))))
      (retS (pureM (.bl false))) (skipS)) [some (.val (.tup [.str c0, .str c1])), some (.val (twoT a b)), some (.val (.str w)), x3] h = .ok .next [some (.val (.tup [.str c0, .str c1])), some (.val (twoT a b)), some (.val (.str w)), x3] h := fun w x3 hw => by
    have hw2 := hw.2
    have ws : w.length ≤ sizeLine := by omega
    have es : (chars w).length ≤ sizeLine := by simp [chars]; omega
    have ii : isiD "str" (.str w) = some (.bl true) := rfl
    have lw : lenD [.str w] = some (.int (w.length : Nat)) := if_pos ws
    have g12 : gtB (.int (w.length : Nat)) (.int 12) = some false := by
      show some (decide _) = _
      rw [decide_eq_false]
      omega
    generalize hee : blM (opB inB (nameM 3) (pureM (.str [97, 98]))) = ee
    have cm : compL (tgN 3) (pureM true) ee [some (.val (.tup [.str c0, .str c1])), some (.val (twoT a b)), some (.val (.str w)), none] (chars w) h = .ok (w.map fun _ => .bl true) h := by
      have := comp_all (g := tgN 3) (t := pureM true) (e := ee) (ρ := [some (.val (.tup [.str c0, .str c1])), some (.val (twoT a b)), some (.val (.str w)), none]) (h := h) (fun _ => .bl true) (chars w) (fun d hd => by
        obtain ⟨x, hx, rfl⟩ := List.mem_map.mp hd
        refine ⟨_, rfl, rfl, ?_⟩
        rw [← hee]
        simp only [bindM, RE.bind, pureM, lift, nameM, viewM, seqS, RS.seq, skipS, RE.to, setS, setLS, retS, dropS, ifS, andT, orT, notT, andV, orV, notV, ifM, valT, opB, op2, consM, mapM1, blM, callM, handM, isHnd, handGet, handSet, hstS, lstM, tupM, frzS, frzE, intD, absD, List.set_cons_succ, List.set_cons_zero, List.getElem?_cons_zero, List.getElem?_cons_succ, in_ab (hw.1 x hx)])
      rw [this]
      unfold chars
      rw [List.map_map]
      rfl
    have al : allD [.lst (w.map fun _ => .bl true)] = some (.bl true) := by
      show (blsD _).map _ = _
      rw [bls_map (fun _ => true)]
      simp
    simp only [bindM, RE.bind, pureM, lift, nameM, viewM, seqS, RS.seq, skipS, RE.to, setS, setLS, retS, dropS, ifS, andT, orT, notT, andV, orV, notV, ifM, valT, opB, op2, consM, mapM1, blM, callM, handM, isHnd, handGet, handSet, hstS, lstM, tupM, frzS, frzE, intD, absD, compM, seqItems, List.getElem?_cons_zero, List.getElem?_cons_succ, wipeE, List.set_cons_succ, List.set_cons_zero, es, if_true, cm, ii, lw, g12, al, Bool.not_true, Bool.false_eq_true, if_false]
  have b1 := body a none ha
  have b2 := body b none hb
  show fnD 4 B__law_is_two [_, twoT a b] h = _
  unfold fnD
  rw [show en0 4 [.tup [.str c0, .str c1], twoT a b] = [some (.val (.tup [.str c0, .str c1])), some (.val (twoT a b)), none, none] from rfl]
  unfold B__law_is_two
  generalize (ifS (orT (notT (valT (mapM1 (nameM 2) (isiD "str")))) (orT (opB gtB (mapM1 (consM (nameM 2) (pureM [])) lenD) (pureM (.int 12))) (notT (valT (mapM1 (consM (compM (seqItems (nameM 2)) (tgN 3) [3] (pureM true) (blM (opB inB (nameM 3) (pureM (.str [97, 98]))))) (pureM [])) allD)))))
      (retS (pureM (.bl false))) (skipS)) = bd at b1 b2 ⊢
  generalize twoT a b = t at *
  unfold same
  cases hab : (a == b)
  · simp only [bindM, RE.bind, pureM, lift, nameM, viewM, seqS, RS.seq, skipS, RE.to, setS, setLS, retS, dropS, ifS, andT, orT, notT, andV, orV, notV, ifM, valT, opB, op2, consM, mapM1, blM, callM, handM, isHnd, handGet, handSet, hstS, lstM, tupM, frzS, frzE, intD, absD, forS, loopS, tgN, seqItems, sliceM, partM, List.getElem?_cons_zero, List.getElem?_cons_succ, List.set_cons_succ, List.set_cons_zero, t0, l0, x0, x1, x2, n0, n1, sl, b1, b2, Bool.not_true, Bool.false_eq_true, if_false, if_true, neS, eqS, i1, i2, hab, Bool.not_true, Bool.not_false, Bool.true_and, Bool.false_and]
  · simp only [bindM, RE.bind, pureM, lift, nameM, viewM, seqS, RS.seq, skipS, RE.to, setS, setLS, retS, dropS, ifS, andT, orT, notT, andV, orV, notV, ifM, valT, opB, op2, consM, mapM1, blM, callM, handM, isHnd, handGet, handSet, hstS, lstM, tupM, frzS, frzE, intD, absD, forS, loopS, tgN, seqItems, sliceM, partM, List.getElem?_cons_zero, List.getElem?_cons_succ, List.set_cons_succ, List.set_cons_zero, t0, l0, x0, x1, x2, n0, n1, sl, b1, b2, Bool.not_true, Bool.false_eq_true, if_false, if_true, neS, eqS, i1, i2, hab, Bool.not_true, Bool.not_false, Bool.true_and, Bool.false_and]
theorem F_told {c0 c1 a b : List Nat} {h : Hand} (c : Cd c0 c1) (ha : Wds a) (hb : Wds b) : F_is_sure_told [.tup [.str c0, .str c1], twoT a b] h = .ok (.bl (same c0 c1 a b)) h := by
  have k1 := F_chkcode (h := h) c
  have i1 := F_raw (c0 := c0) (c1 := c1) (h := h) ha.1 (by have := ha.2; omega) (img_b c ha)
  have i2 := F_raw (c0 := c0) (c1 := c1) (h := h) hb.1 (by have := hb.2; omega) (img_b c hb)
  have t0 : isiD "tuple" (twoT a b) = some (.bl true) := rfl
  have l0 : lenD [twoT a b] = some (.int 3) := rfl
  have x0 : ixD (twoT a b) (.int 0) = some (.str [116, 119, 111]) := rfl
  have x1 : ixD (twoT a b) (.int 1) = some (.str a) := rfl
  have x2 : ixD (twoT a b) (.int 2) = some (.str b) := rfl
  have n0 : neB (.int 3) (.int 3) = some false := rfl
  have n1 : neB (.str [116, 119, 111]) (.str [116, 119, 111]) = some false := rfl
  have e0 := eq_two ha.1 hb.1
  have sl : sliceD (twoT a b) (some 1) none = some (.tup [.str a, .str b]) := rfl
  have s3 : (3 : Nat) ≤ sizeLine := by decide
  have s2 : (2 : Nat) ≤ sizeLine := by decide
  have s1 : (1 : Nat) ≤ sizeLine := by decide
  have q1 : isiD "str" (.str [116, 119, 111]) = some (.bl true) := rfl
  have q2 : isiD "str" (.str a) = some (.bl true) := rfl
  have q3 : isiD "str" (.str b) = some (.bl true) := rfl
  have al3 : allD [.lst [.bl true, .bl true, .bl true]] = some (.bl true) := rfl
  have al2 : allD [.lst [.bl true, .bl true]] = some (.bl true) := rfl
  have f1 := F_let (h := h) (m := 12) ha.1 (by have := ha.2; omega) (by have := ha.2; omega)
  have f2 := F_let (h := h) (m := 12) hb.1 (by have := hb.2; omega) (by have := hb.2; omega)
  have z1 : ∀ h, (compM (seqItems (nameM 1)) (tgN 2) [2] (pureM true) (mapM1 (nameM 2) (isiD "str"))) [some (.val (.tup [.str c0, .str c1])), some (.val (twoT a b)), none] h = .ok (.lst [.bl true, .bl true, .bl true]) h := fun h => by
    unfold twoT
    simp only [bindM, RE.bind, pureM, lift, nameM, viewM, seqS, RS.seq, skipS, RE.to, setS, setLS, retS, dropS, ifS, andT, orT, notT, andV, orV, notV, ifM, valT, opB, op2, consM, mapM1, blM, callM, handM, isHnd, handGet, handSet, hstS, lstM, tupM, frzS, frzE, intD, absD, compM, compL, tgN, wipeE, seqItems, List.getElem?_cons_zero, List.getElem?_cons_succ, List.set_cons_succ, List.set_cons_zero, List.length_cons, List.length_nil, Nat.zero_add, Nat.reduceAdd, s3, if_true, q1, q2, q3]
  have z2 : (compM (seqItems (sliceM (nameM 1) (partM (some (pureM (.int 1)))) (partM none))) (tgN 2) [2] (pureM true) (callM F_is_letters (consM (nameM 2) (consM (pureM (.int 12)) (pureM []))))) [some (.val (.tup [.str c0, .str c1])), some (.val (twoT a b)), none] h = .ok (.lst [.bl true, .bl true]) h := by
    simp only [bindM, RE.bind, pureM, lift, nameM, viewM, seqS, RS.seq, skipS, RE.to, setS, setLS, retS, dropS, ifS, andT, orT, notT, andV, orV, notV, ifM, valT, opB, op2, consM, mapM1, blM, callM, handM, isHnd, handGet, handSet, hstS, lstM, tupM, frzS, frzE, intD, absD, compM, compL, tgN, wipeE, seqItems, sliceM, partM, List.getElem?_cons_zero, List.getElem?_cons_succ, sl, List.set_cons_succ, List.set_cons_zero, List.length_cons, List.length_nil, Nat.zero_add, Nat.reduceAdd, s2, if_true, f1, f2]
  show fnD 3 B_is_sure_told [_, twoT a b] h = _
  unfold fnD
  rw [show en0 3 [.tup [.str c0, .str c1], twoT a b] = [some (.val (.tup [.str c0, .str c1])), some (.val (twoT a b)), none] from rfl]
  unfold B_is_sure_told
  generalize (compM (seqItems (nameM 1)) (tgN 2) [2] (pureM true) (mapM1 (nameM 2) (isiD "str"))) = g1 at z1 ⊢
  generalize (compM (seqItems (sliceM (nameM 1) (partM (some (pureM (.int 1)))) (partM none))) (tgN 2) [2] (pureM true) (callM F_is_letters (consM (nameM 2) (consM (pureM (.int 12)) (pureM []))))) = g2 at z2 ⊢
  generalize twoT a b = t at *
  have sT : D.tup [.str [115, 117, 114, 101]] = sureT := rfl
  unfold same
  cases hab : (a == b)
  · simp only [bindM, RE.bind, pureM, lift, nameM, viewM, seqS, RS.seq, skipS, RE.to, setS, setLS, retS, dropS, ifS, andT, orT, notT, andV, orV, notV, ifM, valT, opB, op2, consM, mapM1, blM, callM, handM, isHnd, handGet, handSet, hstS, lstM, tupM, frzS, frzE, intD, absD, List.getElem?_cons_zero, List.getElem?_cons_succ, List.set_cons_succ, List.set_cons_zero, List.length_cons, List.length_nil, Nat.zero_add, s1, k1, t0, z1, al3, sT, e0, l0, x0, x1, x2, n0, n1, z2, al2, Bool.not_true, Bool.false_eq_true, if_false, if_true, neS, eqS, i1, i2, hab, Bool.not_true, Bool.not_false, Bool.true_and, Bool.false_and]
  · simp only [bindM, RE.bind, pureM, lift, nameM, viewM, seqS, RS.seq, skipS, RE.to, setS, setLS, retS, dropS, ifS, andT, orT, notT, andV, orV, notV, ifM, valT, opB, op2, consM, mapM1, blM, callM, handM, isHnd, handGet, handSet, hstS, lstM, tupM, frzS, frzE, intD, absD, List.getElem?_cons_zero, List.getElem?_cons_succ, List.set_cons_succ, List.set_cons_zero, List.length_cons, List.length_nil, Nat.zero_add, s1, k1, t0, z1, al3, sT, e0, l0, x0, x1, x2, n0, n1, z2, al2, Bool.not_true, Bool.false_eq_true, if_false, if_true, neS, eqS, i1, i2, hab, Bool.not_true, Bool.not_false, Bool.true_and, Bool.false_and]
end G66

set_option Elab.async false
set_option linter.all false
set_option maxRecDepth 100000
set_option maxHeartbeats 4000000
namespace G66
open PySem DL
def isS (c0 c1 : List Nat) : Bool := (c0 != []) && ((c1 != []) && (c0 ++ c1 != c1 ++ c0))
def rawT (c0 c1 : List Nat) : D := if c0 = [] then twoT [] [97] else if c1 = [] then twoT [] [98] else if c0 ++ c1 = c1 ++ c0 then twoT [97, 98] [98, 97] else sureT
theorem F_rsure {c0 c1 : List Nat} {h : Hand} (c : Cd c0 c1) : F_raw_sure [.tup [.str c0, .str c1]] h = .ok (rawT c0 c1) h := by
  have hb := sz_big
  have h0l := c.2.2.1
  have h1l := c.2.2.2
  have s3 : (3 : Nat) ≤ sizeLine := by omega
  have s1 : (1 : Nat) ≤ sizeLine := by omega
  have x0 : ixD (.tup [.str c0, .str c1]) (.int 0) = some (.str c0) := rfl
  have x1 : ixD (.tup [.str c0, .str c1]) (.int 1) = some (.str c1) := rfl
  have a0 : ixD (.str [97, 98]) (.int 0) = some (.str [97]) := rfl
  have a1 : ixD (.str [97, 98]) (.int 1) = some (.str [98]) := rfl
  have l1 : c0.length + c1.length ≤ sizeLine := by omega
  have l2 : c1.length + c0.length ≤ sizeLine := by omega
  show fnD 1 B_raw_sure _ h = _
  unfold fnD
  rw [show en0 1 [.tup [.str c0, .str c1]] = [some (.val (.tup [.str c0, .str c1]))] from rfl]
  unfold B_raw_sure rawT
  by_cases h0 : c0 = []
  · have z : (c0 == []) = true := by simpa using h0
    rw [if_pos h0]
    simp only [bindM, RE.bind, pureM, lift, nameM, viewM, seqS, RS.seq, skipS, RE.to, setS, setLS, retS, dropS, ifS, andT, orT, notT, andV, orV, notV, ifM, valT, opB, op2, consM, mapM1, blM, callM, handM, isHnd, handGet, handSet, hstS, lstM, tupM, frzS, frzE, intD, absD, revM, List.getElem?_cons_zero, x0, x1, eqS, z, if_true, a0, List.length_cons, List.length_nil, Nat.zero_add, Nat.reduceAdd, s3]
    rfl
  · have z : (c0 == []) = false := by simpa using h0
    rw [if_neg h0]
    by_cases h1 : c1 = []
    · have z1 : (c1 == []) = true := by simpa using h1
      rw [if_pos h1]
      simp only [bindM, RE.bind, pureM, lift, nameM, viewM, seqS, RS.seq, skipS, RE.to, setS, setLS, retS, dropS, ifS, andT, orT, notT, andV, orV, notV, ifM, valT, opB, op2, consM, mapM1, blM, callM, handM, isHnd, handGet, handSet, hstS, lstM, tupM, frzS, frzE, intD, absD, revM, List.getElem?_cons_zero, x0, x1, eqS, z, z1, if_true, Bool.false_eq_true, if_false, a1, List.length_cons, List.length_nil, Nat.zero_add, Nat.reduceAdd, s3]
      rfl
    · have z1 : (c1 == []) = false := by simpa using h1
      rw [if_neg h1]
      by_cases h2 : c0 ++ c1 = c1 ++ c0
      · have z2 : (c0 ++ c1 == c1 ++ c0) = true := by simpa using h2
        rw [if_pos h2]
        simp only [bindM, RE.bind, pureM, lift, nameM, viewM, seqS, RS.seq, skipS, RE.to, setS, setLS, retS, dropS, ifS, andT, orT, notT, andV, orV, notV, ifM, valT, opB, op2, consM, mapM1, blM, callM, handM, isHnd, handGet, handSet, hstS, lstM, tupM, frzS, frzE, intD, absD, revM, List.getElem?_cons_zero, x0, x1, eqS, z, z1, z2, addD, l1, l2, if_true, Bool.false_eq_true, if_false, List.length_cons, List.length_nil, Nat.zero_add, Nat.reduceAdd, s3]
        rfl
      · have z2 : (c0 ++ c1 == c1 ++ c0) = false := by simpa using h2
        rw [if_neg h2]
        simp only [bindM, RE.bind, pureM, lift, nameM, viewM, seqS, RS.seq, skipS, RE.to, setS, setLS, retS, dropS, ifS, andT, orT, notT, andV, orV, notV, ifM, valT, opB, op2, consM, mapM1, blM, callM, handM, isHnd, handGet, handSet, hstS, lstM, tupM, frzS, frzE, intD, absD, revM, List.getElem?_cons_zero, x0, x1, eqS, z, z1, z2, addD, l1, l2, if_true, Bool.false_eq_true, if_false, List.length_cons, List.length_nil, Nat.zero_add, Nat.reduceAdd, s1]
        rfl
theorem F_sure {c0 c1 : List Nat} {h : Hand} (c : Cd c0 c1) : F_sure_told [.tup [.str c0, .str c1]] h = .ok (rawT c0 c1) h := by
  have k1 := F_chkcode (h := h) c
  have k2 := F_rsure (h := h) c
  show fnD 1 B_sure_told _ h = _
  unfold fnD
  rw [show en0 1 [.tup [.str c0, .str c1]] = [some (.val (.tup [.str c0, .str c1]))] from rfl]
  unfold B_sure_told
  simp only [bindM, RE.bind, pureM, lift, nameM, viewM, seqS, RS.seq, skipS, RE.to, setS, setLS, retS, dropS, ifS, andT, orT, notT, andV, orV, notV, ifM, valT, opB, op2, consM, mapM1, blM, callM, handM, isHnd, handGet, handSet, hstS, lstM, tupM, frzS, frzE, intD, absD, List.getElem?_cons_zero, k1, k2]
/-- what is told: sure, or two words of one image -/
theorem raw_cases {c0 c1 : List Nat} (c : Cd c0 c1) : (isS c0 c1 = true ∧ rawT c0 c1 = sureT) ∨ (isS c0 c1 = false ∧ ∃ a b, rawT c0 c1 = twoT a b ∧ Wds a ∧ Wds b ∧ same c0 c1 a b = true) := by
  have w0 : Wds [] := ⟨(fun x hx => nomatch hx), by simp⟩
  have wa : Wds [97] := ⟨(fun x hx => .inl (List.mem_singleton.mp hx)), by simp⟩
  have wb : Wds [98] := ⟨(fun x hx => .inr (List.mem_singleton.mp hx)), by simp⟩
  have wab : Wds [97, 98] := ⟨(fun x hx => by simpa using hx), by simp⟩
  have wba : Wds [98, 97] := ⟨(fun x hx => by simp at hx; exact hx.symm), by simp⟩
  unfold rawT
  by_cases h0 : c0 = []
  · rw [if_pos h0]
    exact .inr ⟨by simp [isS, h0], [], [97], rfl, w0, wa, by simp [same, img, h0]⟩
  · rw [if_neg h0]
    by_cases h1 : c1 = []
    · rw [if_pos h1]
      exact .inr ⟨by simp [isS, h1], [], [98], rfl, w0, wb, by simp [same, img, h1]⟩
    · rw [if_neg h1]
      by_cases h2 : c0 ++ c1 = c1 ++ c0
      · rw [if_pos h2]
        exact .inr ⟨by simp [isS, h2], [97, 98], [98, 97], rfl, wab, wba, by simp [same, img, h2]⟩
      · rw [if_neg h2]
        exact .inl ⟨by simp [isS, h0, h1, h2], rfl⟩
theorem eq_ss : eqB sureT sureT = some true := rfl
theorem F_tsure {c0 c1 : List Nat} {h : Hand} (c : Cd c0 c1) : F_is_sure_told [.tup [.str c0, .str c1], sureT] h = .ok (.bl (isS c0 c1)) h := by
  have k1 := F_chkcode (h := h) c
  have k2 := F_rsure (h := h) c
  have s1 : (1 : Nat) ≤ sizeLine := by decide
  have er : eqB (rawT c0 c1) sureT = some (isS c0 c1) := by
    rcases raw_cases c with ⟨h1, h2⟩ | ⟨h1, a, b, h2, wa, wb, _⟩
    · rw [h1, h2]; exact eq_ss
    · rw [h1, h2]; exact eq_two wa.1 wb.1
  have t0 : isiD "tuple" sureT = some (.bl true) := rfl
  have al : allD [.lst [.bl true]] = some (.bl true) := rfl
  have q1 : isiD "str" (.str [115, 117, 114, 101]) = some (.bl true) := rfl
  have z1 : (compM (seqItems (nameM 1)) (tgN 2) [2] (pureM true) (mapM1 (nameM 2) (isiD "str"))) [some (.val (.tup [.str c0, .str c1])), some (.val sureT), none] h = .ok (.lst [.bl true]) h := by
    unfold sureT
    simp only [bindM, RE.bind, pureM, lift, nameM, viewM, seqS, RS.seq, skipS, RE.to, setS, setLS, retS, dropS, ifS, andT, orT, notT, andV, orV, notV, ifM, valT, opB, op2, consM, mapM1, blM, callM, handM, isHnd, handGet, handSet, hstS, lstM, tupM, frzS, frzE, intD, absD, compM, compL, tgN, wipeE, seqItems, List.getElem?_cons_zero, List.getElem?_cons_succ, List.set_cons_succ, List.set_cons_zero, List.length_cons, List.length_nil, Nat.zero_add, s1, if_true, q1]
  show fnD 3 B_is_sure_told [_, sureT] h = _
  unfold fnD
  rw [show en0 3 [.tup [.str c0, .str c1], sureT] = [some (.val (.tup [.str c0, .str c1])), some (.val sureT), none] from rfl]
  unfold B_is_sure_told
  generalize (compM (seqItems (nameM 1)) (tgN 2) [2] (pureM true) (mapM1 (nameM 2) (isiD "str"))) = g1 at z1 ⊢
  have sT : D.tup [.str [115, 117, 114, 101]] = sureT := rfl
  generalize rawT c0 c1 = r at k2 er
  have e0 := eq_ss
  simp only [bindM, RE.bind, pureM, lift, nameM, viewM, seqS, RS.seq, skipS, RE.to, setS, setLS, retS, dropS, ifS, andT, orT, notT, andV, orV, notV, ifM, valT, opB, op2, consM, mapM1, blM, callM, handM, isHnd, handGet, handSet, hstS, lstM, tupM, frzS, frzE, intD, absD, List.getElem?_cons_zero, List.getElem?_cons_succ, List.length_cons, List.length_nil, Nat.zero_add, s1, k1, k2, t0, z1, al, sT, e0, er, Bool.not_true, Bool.false_eq_true, if_false, if_true]
/-- the things told otherwise: none is -/
def badT : List D := [.non, .tup [], .str [115, 117, 114, 101], .lst [.str [115, 117, 114, 101]], .tup [.str [115, 117, 114, 101], .int 0], .tup [.str [116, 119, 111], .str [97]], .tup [.str [116, 119, 111], .str [99], .str [97]], .tup [.str [116, 119, 111], .str [63], .str []]]
theorem F_bad1 {c0 c1 : List Nat} {h : Hand} : ∀ t ∈ badT, F__law_is_two [.tup [.str c0, .str c1], t] h = .ok (.bl false) h := by
  unfold badT
  simp only [List.forall_mem_cons, List.not_mem_nil, false_implies, implies_true, and_true]
  exact ⟨rfl, rfl, rfl, rfl, rfl, rfl, rfl, rfl⟩
theorem F_bad2 {c0 c1 : List Nat} {h : Hand} (c : Cd c0 c1) : ∀ t ∈ badT, F_is_sure_told [.tup [.str c0, .str c1], t] h = .ok (.bl false) h := by
  have k1 := F_chkcode (h := h) c
  have key : ∀ t ∈ badT, (match B_is_sure_told [some (.val (.tup [.str c0, .str c1])), some (.val t), none] h with | .ok (.ret d) _ h' => RE.ok d h' | .ok .next _ h' => .ok .non h' | .ok _ _ _ => .stuck | .err x _ h' => .err x h' | .stuck => .stuck) = .ok (.bl false) h := by
    unfold B_is_sure_told
    have d0 : ∀ t, dropS (callM F_check_code (consM (nameM 0) (pureM []))) [some (.val (.tup [.str c0, .str c1])), some (.val t), none] h = .ok .next [some (.val (.tup [.str c0, .str c1])), some (.val t), none] h := fun t => by
      simp only [bindM, RE.bind, pureM, lift, nameM, viewM, seqS, RS.seq, skipS, RE.to, setS, setLS, retS, dropS, ifS, andT, orT, notT, andV, orV, notV, ifM, valT, opB, op2, consM, mapM1, blM, callM, handM, isHnd, handGet, handSet, hstS, lstM, tupM, frzS, frzE, intD, absD, List.getElem?_cons_zero, k1]
    generalize dropS (callM F_check_code (consM (nameM 0) (pureM []))) = g at d0
    intro t ht
    rw [seqS, d0 t]
    revert t ht
    unfold badT
    simp only [List.forall_mem_cons, List.not_mem_nil, false_implies, implies_true, and_true]
    exact ⟨rfl, rfl, rfl, rfl, rfl, rfl, rfl, rfl⟩
  intro t ht
  exact key t ht
end G66

set_option Elab.async false
set_option linter.all false
set_option maxRecDepth 100000
set_option maxHeartbeats 4000000
namespace G66
open PySem DL
def wordsL : List D := [.str [], .str [97], .str [98], .str [97, 98], .str [98, 97], .str [97, 97, 98], .str [97, 98, 97], .str [97, 98, 98], .str [98, 97, 98]]
theorem words_ok {d : D} (h : d ∈ wordsL) : ∃ w, d = .str w ∧ Wds w := by
  unfold wordsL at h
  simp only [List.mem_cons, List.not_mem_nil, or_false] at h
  rcases h with rfl | rfl | rfl | rfl | rfl | rfl | rfl | rfl | rfl <;> exact ⟨_, rfl, (fun x hx => by simp at hx <;> omega), by simp⟩
/-- t is told of the code just as the law's own look says -/
def TOk (c0 c1 : List Nat) (t : D) : Prop := ∃ v, ∀ (ρ : En) (h : Hand), ρ[1]? = some (some (.val (.tup [.str c0, .str c1]))) → ρ[2]? = some (some (.val (.bl (isS c0 c1)))) → ρ[7]? = some (some (.val t)) →
  F_is_sure_told [.tup [.str c0, .str c1], t] h = .ok (.bl v) h ∧
  ifM (andT (valT (mapM1 (nameM 7) (isiD "tuple"))) (opB eqB (nameM 7) (tupM (consM (pureM (.str [115, 117, 114, 101])) (pureM []))))) (nameM 2) (callM F__law_is_two (consM (nameM 1) (consM (nameM 7) (pureM [])))) ρ h = .ok (.bl v) h
theorem tok_two {c0 c1 a b : List Nat} (c : Cd c0 c1) (ha : Wds a) (hb : Wds b) : TOk c0 c1 (twoT a b) := by
  refine ⟨same c0 c1 a b, fun ρ h h1 h2 h7 => ⟨F_told c ha hb, ?_⟩⟩
  have e1 := F_two (h := h) c ha hb
  have t0 : isiD "tuple" (twoT a b) = some (.bl true) := rfl
  have e0 := eq_two ha.1 hb.1
  have s1 : (1 : Nat) ≤ sizeLine := by decide
  have sT : D.tup [.str [115, 117, 114, 101]] = sureT := rfl
  generalize twoT a b = t at *
  simp only [bindM, RE.bind, pureM, lift, nameM, viewM, seqS, RS.seq, skipS, RE.to, setS, setLS, retS, dropS, ifS, andT, orT, notT, andV, orV, notV, ifM, valT, opB, op2, consM, mapM1, blM, callM, handM, isHnd, handGet, handSet, hstS, lstM, tupM, frzS, frzE, intD, absD, h1, h2, h7, t0, if_true, List.length_cons, List.length_nil, Nat.zero_add, s1, sT, e0, Bool.false_eq_true, if_false, e1]
theorem tok_sure {c0 c1 : List Nat} (c : Cd c0 c1) : TOk c0 c1 sureT := by
  refine ⟨isS c0 c1, fun ρ h h1 h2 h7 => ⟨F_tsure c, ?_⟩⟩
  have t0 : isiD "tuple" sureT = some (.bl true) := rfl
  have e0 := eq_ss
  have s1 : (1 : Nat) ≤ sizeLine := by decide
  have sT : D.tup [.str [115, 117, 114, 101]] = sureT := rfl
  simp only [bindM, RE.bind, pureM, lift, nameM, viewM, seqS, RS.seq, skipS, RE.to, setS, setLS, retS, dropS, ifS, andT, orT, notT, andV, orV, notV, ifM, valT, opB, op2, consM, mapM1, blM, callM, handM, isHnd, handGet, handSet, hstS, lstM, tupM, frzS, frzE, intD, absD, h1, h2, h7, t0, if_true, List.length_cons, List.length_nil, Nat.zero_add, s1, sT, e0]
theorem tok_bad {c0 c1 : List Nat} (c : Cd c0 c1) {t : D} (ht : t ∈ badT) : TOk c0 c1 t := by
  refine ⟨false, fun ρ h h1 h2 h7 => ⟨F_bad2 c t ht, ?_⟩⟩
  have e1 := F_bad1 (c0 := c0) (c1 := c1) (h := h) t ht
  have s1 : (1 : Nat) ≤ sizeLine := by decide
  have sT : D.tup [.str [115, 117, 114, 101]] = sureT := rfl
  have e0 : isiD "tuple" t = some (.bl false) ∨ (isiD "tuple" t = some (.bl true) ∧ eqB t sureT = some false) := by
    unfold badT at ht
    simp only [List.mem_cons, List.not_mem_nil, or_false] at ht
    rcases ht with rfl | rfl | rfl | rfl | rfl | rfl | rfl | rfl <;> first | exact .inl rfl | exact .inr ⟨rfl, rfl⟩
  rcases e0 with e0 | ⟨e0, e2⟩
  · simp only [bindM, RE.bind, pureM, lift, nameM, viewM, seqS, RS.seq, skipS, RE.to, setS, setLS, retS, dropS, ifS, andT, orT, notT, andV, orV, notV, ifM, valT, opB, op2, consM, mapM1, blM, callM, handM, isHnd, handGet, handSet, hstS, lstM, tupM, frzS, frzE, intD, absD, h1, h2, h7, e0, Bool.false_eq_true, if_false, e1]
  · simp only [bindM, RE.bind, pureM, lift, nameM, viewM, seqS, RS.seq, skipS, RE.to, setS, setLS, retS, dropS, ifS, andT, orT, notT, andV, orV, notV, ifM, valT, opB, op2, consM, mapM1, blM, callM, handM, isHnd, handGet, handSet, hstS, lstM, tupM, frzS, frzE, intD, absD, h1, h2, h7, e0, e2, if_true, List.length_cons, List.length_nil, Nat.zero_add, s1, sT, Bool.false_eq_true, if_false, e1]
def bodyS : SM := (seqS (setS 10 (ifM (andT (valT (mapM1 (nameM 7) (isiD "tuple"))) (opB eqB (nameM 7) (tupM (consM (pureM (.str [115, 117, 114, 101])) (pureM []))))) (nameM 2) (callM F__law_is_two (consM (nameM 1) (consM (nameM 7) (pureM []))))))
    (ifS (notT (valT (callM F__law_is (consM (callM F_is_sure_told (consM (nameM 1) (consM (nameM 7) (pureM [])))) (consM (nameM 10) (pureM []))))))
    (retS (pureM (.bl false)))
    (skipS)))
theorem loop_S {c0 c1 : List Nat} {h : Hand} {x0 x3 x4 x5 x6 x8 x9 : Option Sl} : ∀ (ts : List D) (x7 x10 : Option Sl), (∀ t ∈ ts, TOk c0 c1 t) → ∃ y7 y10,
    loopS (tgN 7) bodyS ts [x0, some (.val (.tup [.str c0, .str c1])), some (.val (.bl (isS c0 c1))), x3, x4, x5, x6, x7, x8, x9, x10] h = .ok .next [x0, some (.val (.tup [.str c0, .str c1])), some (.val (.bl (isS c0 c1))), x3, x4, x5, x6, y7, x8, x9, y10] h
  | [], x7, x10, _ => ⟨x7, x10, rfl⟩
  | t :: ts, x7, x10, hts => by
    obtain ⟨v, hv⟩ := hts t (by simp)
    obtain ⟨y7, y10, e⟩ := loop_S ts (some (.val t)) (some (.val (.bl v))) fun t ht => hts t (by simp [ht])
    refine ⟨y7, y10, ?_⟩
    obtain ⟨e1, e2⟩ := hv [x0, some (.val (.tup [.str c0, .str c1])), some (.val (.bl (isS c0 c1))), x3, x4, x5, x6, some (.val t), x8, x9, x10] h rfl rfl rfl
    have e3 := is_s (h := h) (d := .bl v) rfl
    have eb : bodyS [x0, some (.val (.tup [.str c0, .str c1])), some (.val (.bl (isS c0 c1))), x3, x4, x5, x6, some (.val t), x8, x9, x10] h = .ok .next [x0, some (.val (.tup [.str c0, .str c1])), some (.val (.bl (isS c0 c1))), x3, x4, x5, x6, some (.val t), x8, x9, some (.val (.bl v))] h := by
      unfold bodyS
      generalize ifM (andT (valT (mapM1 (nameM 7) (isiD "tuple"))) (opB eqB (nameM 7) (tupM (consM (pureM (.str [115, 117, 114, 101])) (pureM []))))) (nameM 2) (callM F__law_is_two (consM (nameM 1) (consM (nameM 7) (pureM [])))) = g at e2 ⊢
      simp only [bindM, RE.bind, pureM, lift, nameM, viewM, seqS, RS.seq, skipS, RE.to, setS, setLS, retS, dropS, ifS, andT, orT, notT, andV, orV, notV, ifM, valT, opB, op2, consM, mapM1, blM, callM, handM, isHnd, handGet, handSet, hstS, lstM, tupM, frzS, frzE, intD, absD, e2, List.getElem?_cons_zero, List.getElem?_cons_succ, List.set_cons_succ, List.set_cons_zero, e1, e3, Bool.not_true, Bool.false_eq_true, if_false]
    rw [loopS]
    simp only [tgN, List.set_cons_succ, List.set_cons_zero, eb]
    exact e
def drwS : SM := appS' 5 (tupM (consM (pureM (.str [116, 119, 111])) (consM (callM F__law_any (consM (nameM 0) (consM (nameM 4) (pureM [])))) (consM (callM F__law_any (consM (nameM 0) (consM (nameM 4) (pureM [])))) (pureM [])))))
theorem loop_D {T : List (Addr × Str)} {c0 c1 : List Nat} (c : Cd c0 c1) {x1 x2 x3 x7 x8 x9 x10 : Option Sl} : ∀ (ts : List D) (L : List D) (x6 : Option Sl) (h : Hand), HOk T h → (∀ t ∈ L, TOk c0 c1 t) → L.length + ts.length < 1000 → ∃ L' y6 h', (∀ t ∈ L', TOk c0 c1 t) ∧ HOk T h' ∧
    loopS (tgN 6) drwS ts [some (.val .hnd), x1, x2, x3, some (.val (.lst wordsL)), some (.own L), x6, x7, x8, x9, x10] h = .ok .next [some (.val .hnd), x1, x2, x3, some (.val (.lst wordsL)), some (.own L'), y6, x7, x8, x9, x10] h'
  | [], L, x6, h, H, hL, _ => ⟨L, x6, h, hL, H, rfl⟩
  | t :: ts, L, x6, h, H, hL, hl => by
    obtain ⟨d1, h1, e1, m1, H1⟩ := F_any (ds := wordsL) (by simp [wordsL]) (by simp [wordsL]) H
    obtain ⟨d2, h2, e2, m2, H2⟩ := F_any (ds := wordsL) (by simp [wordsL]) (by simp [wordsL]) H1
    obtain ⟨a, rfl, wa⟩ := words_ok m1
    obtain ⟨b, rfl, wb⟩ := words_ok m2
    have s3 : (3 : Nat) ≤ sizeLine := by decide
    have ap := appS_ev (i := 5) (f := tupM (consM (pureM (.str [116, 119, 111])) (consM (callM F__law_any (consM (nameM 0) (consM (nameM 4) (pureM [])))) (consM (callM F__law_any (consM (nameM 0) (consM (nameM 4) (pureM [])))) (pureM []))))) (ρ := [some (.val .hnd), x1, x2, x3, some (.val (.lst wordsL)), some (.own L), some (.val t), x7, x8, x9, x10]) (h := h) (h' := h2) (ds := L) (d := twoT a b) rfl (by
      simp only [bindM, RE.bind, pureM, lift, nameM, viewM, seqS, RS.seq, skipS, RE.to, setS, setLS, retS, dropS, ifS, andT, orT, notT, andV, orV, notV, ifM, valT, opB, op2, consM, mapM1, blM, callM, handM, isHnd, handGet, handSet, hstS, lstM, tupM, frzS, frzE, intD, absD, List.getElem?_cons_zero, List.getElem?_cons_succ, e1, e2, List.length_cons, List.length_nil, Nat.zero_add, Nat.reduceAdd, s3, if_true]
      rfl) (by simp at hl; omega)
    obtain ⟨L', y6, h', hL', H', e⟩ := loop_D c ts (L ++ [twoT a b]) (some (.val t)) h2 H2 (fun t ht => (List.mem_append.mp ht).elim (hL t) fun z => by rw [List.mem_singleton.mp z]; exact tok_two c wa wb) (by simp at hl ⊢; omega)
    refine ⟨L', y6, h', hL', H', ?_⟩
    rw [loopS]
    simp only [tgN, List.set_cons_succ, List.set_cons_zero]
    rw [show drwS = appS' 5 _ from rfl, ap]
    exact e
end G66

set_option Elab.async false
set_option linter.all false
set_option maxRecDepth 100000
set_option maxHeartbeats 4000000
namespace G66
open PySem DL
theorem sright_head {c0 c1 : List Nat} {h : Hand} (c : Cd c0 c1) : andV (blM (opB neB (nameM 8) (pureM (.str [])))) (andV (blM (opB neB (nameM 9) (pureM (.str [])))) (blM (opB neB (op2 addD (nameM 8) (nameM 9)) (op2 addD (nameM 9) (nameM 8)))))
    [some (.val .hnd), some (.val (.tup [.str c0, .str c1])), none, none, none, none, none, none, some (.val (.str c0)), some (.val (.str c1)), none] h = .ok (.bl (isS c0 c1)) h := by
  have hb := sz_big
  have h0l := c.2.2.1
  have h1l := c.2.2.2
  have l1 : c0.length + c1.length ≤ sizeLine := by omega
  have l2 : c1.length + c0.length ≤ sizeLine := by omega
  unfold isS
  cases z0 : (c0 == []) with
  | true =>
    have z0' : (c0 != []) = false := by simp [bne, z0]
    simp only [bindM, RE.bind, pureM, lift, nameM, viewM, seqS, RS.seq, skipS, RE.to, setS, setLS, retS, dropS, ifS, andT, orT, notT, andV, orV, notV, ifM, valT, opB, op2, consM, mapM1, blM, callM, handM, isHnd, handGet, handSet, hstS, lstM, tupM, frzS, frzE, intD, absD, List.getElem?_cons_zero, List.getElem?_cons_succ, neE, z0, Bool.not_true, z0', Bool.false_and]
  | false =>
    have z0' : (c0 != []) = true := by simp [bne, z0]
    cases z1 : (c1 == []) with
    | true =>
      have z1' : (c1 != []) = false := by simp [bne, z1]
      simp only [bindM, RE.bind, pureM, lift, nameM, viewM, seqS, RS.seq, skipS, RE.to, setS, setLS, retS, dropS, ifS, andT, orT, notT, andV, orV, notV, ifM, valT, opB, op2, consM, mapM1, blM, callM, handM, isHnd, handGet, handSet, hstS, lstM, tupM, frzS, frzE, intD, absD, List.getElem?_cons_zero, List.getElem?_cons_succ, neE, z0, z1, Bool.not_true, Bool.not_false, z0', z1', Bool.false_and, Bool.and_false]
    | false =>
      have z1' : (c1 != []) = true := by simp [bne, z1]
      simp only [bindM, RE.bind, pureM, lift, nameM, viewM, seqS, RS.seq, skipS, RE.to, setS, setLS, retS, dropS, ifS, andT, orT, notT, andV, orV, notV, ifM, valT, opB, op2, consM, mapM1, blM, callM, handM, isHnd, handGet, handSet, hstS, lstM, tupM, frzS, frzE, intD, absD, List.getElem?_cons_zero, List.getElem?_cons_succ, neE, neS, z0, z1, Bool.not_false, z0', z1', Bool.true_and, addD, l1, l2, if_true, bne]
theorem neT {a b : List Nat} (ha : Wd a) (hb : Wd b) : neB (twoT a b) sureT = some true := by
  show (if scalD (twoT a b) sureT = true ∨ (good (twoT a b) = true ∧ good sureT = true) then some (!beq (twoT a b) sureT) else none) = _
  rw [if_pos (.inr ⟨two_good ha hb, rfl⟩)]
  rfl
theorem sright_cond {c0 c1 : List Nat} {h : Hand} (c : Cd c0 c1) {x0 x4 x5 x6 x7 x8 x9 x10 : Option Sl} : (orT (andT (valT (nameM 2)) (opB neB (nameM 3) (tupM (consM (pureM (.str [115, 117, 114, 101])) (pureM []))))) (andT (notT (valT (nameM 2))) (notT (valT (callM F__law_is_two (consM (nameM 1) (consM (nameM 3) (pureM []))))))))
    [x0, some (.val (.tup [.str c0, .str c1])), some (.val (.bl (isS c0 c1))), some (.val (rawT c0 c1)), x4, x5, x6, x7, x8, x9, x10] h = .ok false h := by
  have s1 : (1 : Nat) ≤ sizeLine := by decide
  have sT : D.tup [.str [115, 117, 114, 101]] = sureT := rfl
  rcases raw_cases c with ⟨h1, h2⟩ | ⟨h1, a, b, h2, wa, wb, h3⟩
  · rw [h1, h2]
    have n0 : neB sureT sureT = some false := rfl
    simp only [bindM, RE.bind, pureM, lift, nameM, viewM, seqS, RS.seq, skipS, RE.to, setS, setLS, retS, dropS, ifS, andT, orT, notT, andV, orV, notV, ifM, valT, opB, op2, consM, mapM1, blM, callM, handM, isHnd, handGet, handSet, hstS, lstM, tupM, frzS, frzE, intD, absD, List.getElem?_cons_zero, List.getElem?_cons_succ, List.length_cons, List.length_nil, Nat.zero_add, s1, if_true, sT, n0, Bool.not_true, Bool.false_eq_true, if_false]
  · rw [h1, h2]
    have e1 := F_two (h := h) c wa wb
    rw [h3] at e1
    generalize twoT a b = t at *
    simp only [bindM, RE.bind, pureM, lift, nameM, viewM, seqS, RS.seq, skipS, RE.to, setS, setLS, retS, dropS, ifS, andT, orT, notT, andV, orV, notV, ifM, valT, opB, op2, consM, mapM1, blM, callM, handM, isHnd, handGet, handSet, hstS, lstM, tupM, frzS, frzE, intD, absD, List.getElem?_cons_zero, List.getElem?_cons_succ, Bool.not_false, Bool.false_eq_true, if_false, if_true, e1, Bool.not_true]
theorem F_sright {T : List (Addr × Str)} {c0 c1 : List Nat} {h : Hand} (c : Cd c0 c1) (H : HOk T h) : ∃ h', F__law_sure_right [.hnd, .tup [.str c0, .str c1]] h = .ok (.bl true) h' ∧ HOk T h' := by
  have hb := sz_big
  have s0 : (0 : Nat) ≤ sizeLine := by omega
  have s1 : (1 : Nat) ≤ sizeLine := by omega
  have s2 : (2 : Nat) ≤ sizeLine := by omega
  have s3 : (3 : Nat) ≤ sizeLine := by omega
  have s9 : (9 : Nat) ≤ sizeLine := by omega
  have g2 := sright_head (h := h) c
  have k3 := F_sure (h := h) c
  have gc := sright_cond (h := h) c (x0 := some (.val .hnd)) (x4 := none) (x5 := none) (x6 := none) (x7 := none) (x8 := some (.val (.str c0))) (x9 := some (.val (.str c1))) (x10 := none)
  have tr : TOk c0 c1 (rawT c0 c1) := by
    rcases raw_cases c with ⟨_, h2⟩ | ⟨_, a, b, h2, wa, wb, _⟩
    · rw [h2]; exact tok_sure c
    · rw [h2]; exact tok_two c wa wb
  have g4 : ∀ (x2 x3 : Option Sl), lstM (consM (pureM (.str [])) (consM (pureM (.str [97])) (consM (pureM (.str [98])) (consM (pureM (.str [97, 98])) (consM (pureM (.str [98, 97])) (consM (pureM (.str [97, 97, 98])) (consM (pureM (.str [97, 98, 97])) (consM (pureM (.str [97, 98, 98])) (consM (pureM (.str [98, 97, 98])) (pureM [])))))))))) [some (.val .hnd), some (.val (.tup [.str c0, .str c1])), x2, x3, none, none, none, none, some (.val (.str c0)), some (.val (.str c1)), none] h = .ok (.lst wordsL) h := fun x2 x3 => by
    simp only [bindM, RE.bind, pureM, lift, nameM, viewM, seqS, RS.seq, skipS, RE.to, setS, setLS, retS, dropS, ifS, andT, orT, notT, andV, orV, notV, ifM, valT, opB, op2, consM, mapM1, blM, callM, handM, isHnd, handGet, handSet, hstS, lstM, tupM, frzS, frzE, intD, absD, List.length_cons, List.length_nil, Nat.zero_add, Nat.reduceAdd, s9, if_true]
    rfl
  have g5 : lstM (consM (nameM 3) (consM (pureM .non) (consM (tupM (pureM [])) (consM (pureM (.str [115, 117, 114, 101])) (consM (lstM (consM (pureM (.str [115, 117, 114, 101])) (pureM []))) (consM (tupM (consM (pureM (.str [115, 117, 114, 101])) (pureM []))) (consM (tupM (consM (pureM (.str [115, 117, 114, 101])) (consM (pureM (.int 0)) (pureM [])))) (consM (tupM (consM (pureM (.str [116, 119, 111])) (consM (pureM (.str [97])) (pureM [])))) (consM (tupM (consM (pureM (.str [116, 119, 111])) (consM (pureM (.str [99])) (consM (pureM (.str [97])) (pureM []))))) (pureM [])))))))))) [some (.val .hnd), some (.val (.tup [.str c0, .str c1])), some (.val (.bl (isS c0 c1))), some (.val (rawT c0 c1)), some (.val (.lst wordsL)), none, none, none, some (.val (.str c0)), some (.val (.str c1)), none] h
      = .ok (.lst [rawT c0 c1, .non, .tup [], .str [115, 117, 114, 101], .lst [.str [115, 117, 114, 101]], sureT, .tup [.str [115, 117, 114, 101], .int 0], .tup [.str [116, 119, 111], .str [97]], .tup [.str [116, 119, 111], .str [99], .str [97]]]) h := by
    simp only [bindM, RE.bind, pureM, lift, nameM, viewM, seqS, RS.seq, skipS, RE.to, setS, setLS, retS, dropS, ifS, andT, orT, notT, andV, orV, notV, ifM, valT, opB, op2, consM, mapM1, blM, callM, handM, isHnd, handGet, handSet, hstS, lstM, tupM, frzS, frzE, intD, absD, List.getElem?_cons_zero, List.getElem?_cons_succ, List.length_cons, List.length_nil, Nat.zero_add, Nat.reduceAdd, s0, s1, s2, s3, s9, if_true]
    rfl
  have hL : ∀ t ∈ [rawT c0 c1, .non, .tup [], .str [115, 117, 114, 101], .lst [.str [115, 117, 114, 101]], sureT, .tup [.str [115, 117, 114, 101], .int 0], .tup [.str [116, 119, 111], .str [97]], .tup [.str [116, 119, 111], .str [99], .str [97]], .tup [.str [116, 119, 111], .str [63], .str []]], TOk c0 c1 t := by
    have tb : ∀ t, t ∈ badT → TOk c0 c1 t := fun t ht => tok_bad c ht
    simp only [List.forall_mem_cons, List.not_mem_nil, false_implies, implies_true, and_true]
    exact ⟨tr, tb _ (by simp [badT]), tb _ (by simp [badT]), tb _ (by simp [badT]), tb _ (by simp [badT]), tok_sure c, tb _ (by simp [badT]), tb _ (by simp [badT]), tb _ (by simp [badT]), tb _ (by simp [badT])⟩
  have g6 := appS_ev (i := 5) (f := tupM (consM (pureM (.str [116, 119, 111])) (consM (pureM (.str [63])) (consM (pureM (.str [])) (pureM []))))) (ρ := [some (.val .hnd), some (.val (.tup [.str c0, .str c1])), some (.val (.bl (isS c0 c1))), some (.val (rawT c0 c1)), some (.val (.lst wordsL)), some (.own [rawT c0 c1, .non, .tup [], .str [115, 117, 114, 101], .lst [.str [115, 117, 114, 101]], sureT, .tup [.str [115, 117, 114, 101], .int 0], .tup [.str [116, 119, 111], .str [97]], .tup [.str [116, 119, 111], .str [99], .str [97]]]), none, none, some (.val (.str c0)), some (.val (.str c1)), none]) (h := h) (h' := h) (d := .tup [.str [116, 119, 111], .str [63], .str []]) rfl (by
    simp only [bindM, RE.bind, pureM, lift, nameM, viewM, seqS, RS.seq, skipS, RE.to, setS, setLS, retS, dropS, ifS, andT, orT, notT, andV, orV, notV, ifM, valT, opB, op2, consM, mapM1, blM, callM, handM, isHnd, handGet, handSet, hstS, lstM, tupM, frzS, frzE, intD, absD, List.length_cons, List.length_nil, Nat.zero_add, Nat.reduceAdd, s3, if_true]) (by simp)
  have rg : rng1 [.int 5] = some [.int 0, .int 1, .int 2, .int 3, .int 4] := rfl
  obtain ⟨L', y6, h', hL', H', e7⟩ := loop_D (T := T) c (x1 := some (.val (.tup [.str c0, .str c1]))) (x2 := some (.val (.bl (isS c0 c1)))) (x3 := some (.val (rawT c0 c1))) (x7 := none) (x8 := some (.val (.str c0))) (x9 := some (.val (.str c1))) (x10 := none) [.int 0, .int 1, .int 2, .int 3, .int 4] _ none h H hL (by simp)
  obtain ⟨y7, y10, e8⟩ := loop_S (c0 := c0) (c1 := c1) (h := h') (x0 := some (.val .hnd)) (x3 := some (.val (rawT c0 c1))) (x4 := some (.val (.lst wordsL))) (x5 := some (.val (.lst L'))) (x6 := y6) (x8 := some (.val (.str c0))) (x9 := some (.val (.str c1))) L' none none hL'
  refine ⟨h', ?_, H'⟩
  show fnD 11 B__law_sure_right _ h = _
  unfold fnD
  rw [show en0 11 [.hnd, .tup [.str c0, .str c1]] = [some (.val .hnd), some (.val (.tup [.str c0, .str c1])), none, none, none, none, none, none, none, none, none] from rfl]
  have e0 : B__law_sure_right = seqS (asgS (tgT 2 (tgCons (tgN 8) (tgCons (tgN 9) (tgNil)))) (nameM 1))
    (seqS (setS 2 (andV (blM (opB neB (nameM 8) (pureM (.str [])))) (andV (blM (opB neB (nameM 9) (pureM (.str [])))) (blM (opB neB (op2 addD (nameM 8) (nameM 9)) (op2 addD (nameM 9) (nameM 8)))))))
    (seqS (setS 3 (callM F_sure_told (consM (nameM 1) (pureM []))))
    (seqS (ifS (orT (andT (valT (nameM 2)) (opB neB (nameM 3) (tupM (consM (pureM (.str [115, 117, 114, 101])) (pureM []))))) (andT (notT (valT (nameM 2))) (notT (valT (callM F__law_is_two (consM (nameM 1) (consM (nameM 3) (pureM []))))))))
    (retS (pureM (.bl false)))
    (skipS))
    (seqS (setS 4 (lstM (consM (pureM (.str [])) (consM (pureM (.str [97])) (consM (pureM (.str [98])) (consM (pureM (.str [97, 98])) (consM (pureM (.str [98, 97])) (consM (pureM (.str [97, 97, 98])) (consM (pureM (.str [97, 98, 97])) (consM (pureM (.str [97, 98, 98])) (consM (pureM (.str [98, 97, 98])) (pureM []))))))))))))
    (seqS (setLS 5 (lstM (consM (nameM 3) (consM (pureM .non) (consM (tupM (pureM [])) (consM (pureM (.str [115, 117, 114, 101])) (consM (lstM (consM (pureM (.str [115, 117, 114, 101])) (pureM []))) (consM (tupM (consM (pureM (.str [115, 117, 114, 101])) (pureM []))) (consM (tupM (consM (pureM (.str [115, 117, 114, 101])) (consM (pureM (.int 0)) (pureM [])))) (consM (tupM (consM (pureM (.str [116, 119, 111])) (consM (pureM (.str [97])) (pureM [])))) (consM (tupM (consM (pureM (.str [116, 119, 111])) (consM (pureM (.str [99])) (consM (pureM (.str [97])) (pureM []))))) (pureM []))))))))))))
    (seqS (appS' 5 (tupM (consM (pureM (.str [116, 119, 111])) (consM (pureM (.str [63])) (consM (pureM (.str [])) (pureM []))))))
    (seqS (forS (mapM1 (consM (pureM (.int 5)) (pureM [])) rng1) (tgN 6) drwS)
    (seqS (frzS 5 (forS (seqItems (nameM 5)) (tgN 7) bodyS))
    (retS (pureM (.bl true))))))))))) := rfl
  rw [e0]
  generalize andV (blM (opB neB (nameM 8) (pureM (.str [])))) (andV (blM (opB neB (nameM 9) (pureM (.str [])))) (blM (opB neB (op2 addD (nameM 8) (nameM 9)) (op2 addD (nameM 9) (nameM 8))))) = f2 at g2 ⊢
  generalize (orT (andT (valT (nameM 2)) (opB neB (nameM 3) (tupM (consM (pureM (.str [115, 117, 114, 101])) (pureM []))))) (andT (notT (valT (nameM 2))) (notT (valT (callM F__law_is_two (consM (nameM 1) (consM (nameM 3) (pureM [])))))))) = fc at gc ⊢
  generalize lstM (consM (pureM (.str [])) (consM (pureM (.str [97])) (consM (pureM (.str [98])) (consM (pureM (.str [97, 98])) (consM (pureM (.str [98, 97])) (consM (pureM (.str [97, 97, 98])) (consM (pureM (.str [97, 98, 97])) (consM (pureM (.str [97, 98, 98])) (consM (pureM (.str [98, 97, 98])) (pureM [])))))))))) = f4 at g4 ⊢
  generalize lstM (consM (nameM 3) (consM (pureM .non) (consM (tupM (pureM [])) (consM (pureM (.str [115, 117, 114, 101])) (consM (lstM (consM (pureM (.str [115, 117, 114, 101])) (pureM []))) (consM (tupM (consM (pureM (.str [115, 117, 114, 101])) (pureM []))) (consM (tupM (consM (pureM (.str [115, 117, 114, 101])) (consM (pureM (.int 0)) (pureM [])))) (consM (tupM (consM (pureM (.str [116, 119, 111])) (consM (pureM (.str [97])) (pureM [])))) (consM (tupM (consM (pureM (.str [116, 119, 111])) (consM (pureM (.str [99])) (consM (pureM (.str [97])) (pureM []))))) (pureM [])))))))))) = f5 at g5 ⊢
  generalize appS' 5 (tupM (consM (pureM (.str [116, 119, 111])) (consM (pureM (.str [63])) (consM (pureM (.str [])) (pureM []))))) = f6 at g6 ⊢
  generalize drwS = b7 at e7 ⊢
  generalize bodyS = b8 at e8 ⊢
  generalize hw : wordsL = wl at *
  generalize hrt : rawT c0 c1 = rt at *
  simp only [List.cons_append, List.nil_append] at g6
  simp only [seqS, RS.seq, asgS, tgT, tgCons, tgN, tgNil, RE.to, nameM, List.getElem?_cons_zero, List.getElem?_cons_succ, List.length_cons, List.length_nil, Nat.zero_add, Nat.reduceAdd, if_true, Option.bind_some, List.set_cons_succ, List.set_cons_zero, setS, g2, callM, consM, bindM, RE.bind, pureM, k3, ifS, gc, Bool.false_eq_true, if_false, skipS, g4, setLS, g5, g6, forS, mapM1, lift, rg, e7, frzS, frzE, seqItems, e8, retS]
end G66

set_option Elab.async false
set_option linter.all false
set_option maxRecDepth 100000
set_option maxHeartbeats 4000000
namespace G66
open PySem DL
theorem F_let' {w : List Nat} {h : Hand} (hw : Wd w) (hs : w.length ≤ 1000) : F_is_letters [.str w, .int 4] h = .ok (.bl (decide (w.length ≤ 4))) h := by
  by_cases hl : w.length ≤ 4
  · rw [F_let hw (by omega) hs, decide_eq_true hl]
  · have ws : w.length ≤ sizeLine := by have := sz_big; omega
    have ii : isiD "str" (.str w) = some (.bl true) := rfl
    have l0 : lenD [.str w] = some (.int (w.length : Nat)) := if_pos ws
    have g : leB (.int (w.length : Nat)) (.int 4) = some false := by
      show some (decide _) = _
      rw [decide_eq_false]
      omega
    rw [decide_eq_false hl]
    show fnD 3 B_is_letters _ h = _
    unfold fnD
    rw [show en0 3 [.str w, .int 4] = [some (.val (.str w)), some (.val (.int 4)), none] from rfl]
    unfold B_is_letters
    simp only [bindM, RE.bind, pureM, lift, nameM, viewM, seqS, RS.seq, skipS, RE.to, setS, setLS, retS, dropS, ifS, andT, orT, notT, andV, orV, notV, ifM, valT, opB, op2, consM, mapM1, blM, callM, handM, isHnd, handGet, handSet, hstS, lstM, tupM, frzS, frzE, intD, absD, List.getElem?_cons_zero, List.getElem?_cons_succ, ii, l0, g]
def okJ (a b : List Nat) : Bool := decide (a.length ≤ 4) && decide (b.length ≤ 4)
theorem F_iscode' {a b : List Nat} {h : Hand} (wa : Wd a) (wb : Wd b) (la : a.length ≤ 16) (lb : b.length ≤ 16) : F_is_code [.tup [.str a, .str b]] h = .ok (.bl (okJ a b)) h := by
  show fnD 2 B_is_code _ h = _
  unfold fnD
  rw [show en0 2 [.tup [.str a, .str b]] = [some (.val (.tup [.str a, .str b])), none] from rfl]
  unfold B_is_code okJ
  have s1 : F_is_sized [.tup [.str a, .str b], .int 2, .int 2] h = .ok (.bl true) h := rfl
  have l0 := F_let' (h := h) wa (by omega)
  have l1 := F_let' (h := h) wb (by omega)
  have s2 : (2 : Nat) ≤ sizeLine := by decide
  generalize decide (a.length ≤ 4) = p at *
  generalize decide (b.length ≤ 4) = q at *
  have al : allD [.lst [.bl p, .bl q]] = some (.bl (p && q)) := by
    cases p <;> cases q <;> rfl
  simp only [bindM, RE.bind, pureM, lift, nameM, viewM, seqS, RS.seq, skipS, RE.to, setS, setLS, retS, dropS, ifS, andT, orT, notT, andV, orV, notV, ifM, valT, opB, op2, consM, mapM1, blM, callM, handM, isHnd, handGet, handSet, hstS, lstM, tupM, frzS, frzE, intD, absD, compM, compL, tgN, seqItems, List.getElem?_cons_zero, List.getElem?_cons_succ, wipeE, List.set_cons_succ, List.set_cons_zero, List.length_cons, List.length_nil, Nat.zero_add, Nat.reduceAdd, s2, if_true, s1, l0, l1, al]
def jn (l0 l1 c0 c1 : List Nat) : RE D → Prop := fun r => True
theorem img16 {l0 l1 c : List Nat} (d : Cd l0 l1) (hc : c.length ≤ 4) : (img l0 l1 c).length ≤ 16 := by have := img_len d c; omega
theorem F_join {c0 c1 l0 l1 : List Nat} {h : Hand} (c : Cd c0 c1) (d : Cd l0 l1) : F_joined_codes [.tup [.str c0, .str c1], .tup [.str l0, .str l1]] h = if okJ (img l0 l1 c0) (img l0 l1 c1) = true then .ok (.tup [.str (img l0 l1 c0), .str (img l0 l1 c1)]) h else .err "NoCode" h := by
  have k1 := F_chkcode (h := h) c
  have k2 := F_chkcode (h := h) d
  have b0 := img16 (c := c0) d c.2.2.1
  have b1 := img16 (c := c1) d c.2.2.2
  have i0 := F_raw (c0 := l0) (c1 := l1) (h := h) c.1 (by have := c.2.2.1; omega) (by omega)
  have i1 := F_raw (c0 := l0) (c1 := l1) (h := h) c.2.1 (by have := c.2.2.2; omega) (by omega)
  have ic := F_iscode' (h := h) (img_wd d.1 d.2.1 c0) (img_wd d.1 d.2.1 c1) b0 b1
  have x0 : ixD (.tup [.str c0, .str c1]) (.int 0) = some (.str c0) := rfl
  have x1 : ixD (.tup [.str c0, .str c1]) (.int 1) = some (.str c1) := rfl
  have s2 : (2 : Nat) ≤ sizeLine := by decide
  generalize okJ (img l0 l1 c0) (img l0 l1 c1) = v at ic ⊢
  show fnD 3 B_joined_codes _ h = _
  unfold fnD
  rw [show en0 3 [.tup [.str c0, .str c1], .tup [.str l0, .str l1]] = [some (.val (.tup [.str c0, .str c1])), some (.val (.tup [.str l0, .str l1])), none] from rfl]
  unfold B_joined_codes
  cases v
  · simp only [bindM, RE.bind, pureM, lift, nameM, viewM, seqS, RS.seq, skipS, RE.to, setS, setLS, retS, dropS, ifS, andT, orT, notT, andV, orV, notV, ifM, valT, opB, op2, consM, mapM1, blM, callM, handM, isHnd, handGet, handSet, hstS, lstM, tupM, frzS, frzE, intD, absD, raiseS, List.getElem?_cons_zero, List.getElem?_cons_succ, List.set_cons_succ, List.set_cons_zero, k1, k2, x0, x1, i0, i1, List.length_cons, List.length_nil, Nat.zero_add, Nat.reduceAdd, s2, if_true, ic, Bool.not_false, Bool.false_eq_true, if_false]
  · simp only [bindM, RE.bind, pureM, lift, nameM, viewM, seqS, RS.seq, skipS, RE.to, setS, setLS, retS, dropS, ifS, andT, orT, notT, andV, orV, notV, ifM, valT, opB, op2, consM, mapM1, blM, callM, handM, isHnd, handGet, handSet, hstS, lstM, tupM, frzS, frzE, intD, absD, raiseS, List.getElem?_cons_zero, List.getElem?_cons_succ, List.set_cons_succ, List.set_cons_zero, k1, k2, x0, x1, i0, i1, List.length_cons, List.length_nil, Nat.zero_add, Nat.reduceAdd, s2, if_true, ic, Bool.not_true, Bool.false_eq_true, if_false]
/-- what the law is to find of joined codes -/
def dueJ (a b : List Nat) : D := if okJ a b = true then .tup [.str a, .str b] else .str [33, 78, 111, 67, 111, 100, 101]
theorem word_join {P : Addr} {q : Str} {c0 c1 l0 l1 : List Nat} {h : Hand} {ρ : En} (c : Cd c0 c1) (d : Cd l0 l1) (h6 : ρ[6]? = some (some (.val (.tup [.str c0, .str c1])))) (h7 : ρ[7]? = some (some (.val (.tup [.str l0, .str l1])))) (hT : (P, q) ∈ h.T ∧ ∀ p ∈ h.T, p.1 = P → p.2 = q) :
    wordM P q (callM F_joined_codes (consM (nameM 6) (consM (nameM 7) (pureM [])))) ρ h = .ok (dueJ (img l0 l1 c0) (img l0 l1 c1)) h := by
  have e : callM F_joined_codes (consM (nameM 6) (consM (nameM 7) (pureM []))) ρ h = if okJ (img l0 l1 c0) (img l0 l1 c1) = true then .ok (.tup [.str (img l0 l1 c0), .str (img l0 l1 c1)]) h else .err "NoCode" h := by
    rw [← F_join c d]
    simp only [bindM, RE.bind, pureM, lift, nameM, viewM, seqS, RS.seq, skipS, RE.to, setS, setLS, retS, dropS, ifS, andT, orT, notT, andV, orV, notV, ifM, valT, opB, op2, consM, mapM1, blM, callM, handM, isHnd, handGet, handSet, hstS, lstM, tupM, frzS, frzE, intD, absD, h6, h7]
  unfold wordM dueJ
  rw [if_pos hT, e]
  cases okJ (img l0 l1 c0) (img l0 l1 c1)
  · simp
  · simp
theorem due_ev {a b : List Nat} {h : Hand} {x0 x1 x2 x3 x4 x6 x7 x8 x9 x10 x11 x12 x13 x14 x15 : Option Sl} (la : a.length ≤ 16) (lb : b.length ≤ 16) :
    ifM (opB gtB (mapM1 (consM (compM (seqItems (nameM 5)) (tgN 15) [15] (pureM true) (mapM1 (consM (nameM 15) (pureM [])) lenD)) (pureM [])) maxD) (pureM (.int 4))) (pureM (.str [33, 78, 111, 67, 111, 100, 101])) (nameM 5) [x0, x1, x2, x3, x4, some (.val (.tup [.str a, .str b])), x6, x7, x8, x9, x10, x11, x12, x13, x14, x15] h = .ok (dueJ a b) h := by
  have hb := sz_big
  have s2 : (2 : Nat) ≤ sizeLine := by omega
  have as : a.length ≤ sizeLine := by omega
  have bs : b.length ≤ sizeLine := by omega
  have e1 : lenD [.str a] = some (.int (a.length : Nat)) := if_pos as
  have e2 : lenD [.str b] = some (.int (b.length : Nat)) := if_pos bs
  have mx : maxD [.lst [.int (a.length : Nat), .int (b.length : Nat)]] = some (.int (max (a.length : Int) (b.length : Int))) := rfl
  have g : gtB (.int (max (a.length : Int) (b.length : Int))) (.int 4) = some (!okJ a b) := by
    show some (decide _) = some _
    congr 1
    unfold okJ
    by_cases ha : a.length ≤ 4 <;> by_cases hb : b.length ≤ 4 <;> simp [ha, hb] <;> omega
  unfold dueJ
  generalize max (a.length : Int) (b.length : Int) = m at mx g
  cases hv : okJ a b
  · rw [hv] at g
    simp only [bindM, RE.bind, pureM, lift, nameM, viewM, seqS, RS.seq, skipS, RE.to, setS, setLS, retS, dropS, ifS, andT, orT, notT, andV, orV, notV, ifM, valT, opB, op2, consM, mapM1, blM, callM, handM, isHnd, handGet, handSet, hstS, lstM, tupM, frzS, frzE, intD, absD, compM, compL, tgN, seqItems, wipeE, List.getElem?_cons_zero, List.getElem?_cons_succ, List.set_cons_succ, List.set_cons_zero, List.length_cons, List.length_nil, Nat.zero_add, Nat.reduceAdd, s2, if_true, e1, e2, mx, g, Bool.not_false, Bool.false_eq_true, if_false]
  · rw [hv] at g
    simp only [bindM, RE.bind, pureM, lift, nameM, viewM, seqS, RS.seq, skipS, RE.to, setS, setLS, retS, dropS, ifS, andT, orT, notT, andV, orV, notV, ifM, valT, opB, op2, consM, mapM1, blM, callM, handM, isHnd, handGet, handSet, hstS, lstM, tupM, frzS, frzE, intD, absD, compM, compL, tgN, seqItems, wipeE, List.getElem?_cons_zero, List.getElem?_cons_succ, List.set_cons_succ, List.set_cons_zero, List.length_cons, List.length_nil, Nat.zero_add, Nat.reduceAdd, s2, if_true, e1, e2, mx, g, Bool.not_true, Bool.false_eq_true, if_false]
theorem is_due {a b : List Nat} {h : Hand} : F__law_is [dueJ a b, dueJ a b] h = .ok (.bl true) h := by
  unfold dueJ
  by_cases hv : okJ a b = true
  · rw [if_pos hv]
    exact is_t (by simp [scB]) (by simp)
  · rw [if_neg hv]
    exact is_s rfl
end G66

set_option Elab.async false
set_option linter.all false
set_option maxRecDepth 100000
set_option maxHeartbeats 4000000
namespace G66
open PySem DL
def textB : SM := (seqS (asgS (tgT 2 (tgCons (tgN 13) (tgCons (tgN 14) (tgNil)))) (callM F__law_backs (consM (nameM 6) (consM (nameM 10) (pureM [])))))
    (ifS (notT (valT (callM F__law_is (consM (lstM (consM (callM F_read_back (consM (nameM 6) (consM (nameM 10) (pureM [])))) (consM (callM F_many_back (consM (nameM 6) (consM (nameM 10) (pureM [])))) (pureM [])))) (consM (lstM (consM (nameM 13) (consM (nameM 14) (pureM [])))) (pureM []))))))
    (retS (pureM (.bl false)))
    (skipS)))
theorem text_ev {c0 c1 w : List Nat} {h : Hand} (c : Cd c0 c1) (hw : Wd w) (hl : w.length ≤ 20) {x0 x1 x2 x3 x4 x5 x7 x8 x9 x11 x12 x13 x14 x15 : Option Sl} : ∃ y13 y14,
    textB [x0, x1, x2, x3, x4, x5, some (.val (.tup [.str c0, .str c1])), x7, x8, x9, some (.val (.str w)), x11, x12, x13, x14, x15] h = .ok .next [x0, x1, x2, x3, x4, x5, some (.val (.tup [.str c0, .str c1])), x7, x8, x9, some (.val (.str w)), x11, x12, y13, y14, x15] h := by
  have e1 := F_backs (h := h) c hl
  have e2 := F_read (h := h) c hw (by omega)
  have e3 := F_many (h := h) c hw (by omega)
  rw [back_eq] at e1
  have hm : (if 0 < lastN c0 c1 w ∧ hasE c0 c1 = true then D.non else .int (lastN c0 c1 w : Nat)) = manyD c0 c1 (lastN c0 c1 w) := rfl
  rw [hm] at e3
  have q1 : scB (bestD (lastB c0 c1 w)) = true := by cases lastB c0 c1 w <;> rfl
  have q2 : scB (manyD c0 c1 (lastN c0 c1 w)) = true := by unfold manyD; split <;> rfl
  generalize bestD (lastB c0 c1 w) = A at *
  generalize manyD c0 c1 (lastN c0 c1 w) = B at *
  have e4 := is_l (h := h) (ds := [A, B]) (by intro d hd; simp at hd; rcases hd with rfl | rfl; exact q1; exact q2) (by simp)
  have s2 : (2 : Nat) ≤ sizeLine := by decide
  refine ⟨some (.val A), some (.val B), ?_⟩
  unfold textB
  simp only [bindM, RE.bind, pureM, lift, nameM, viewM, seqS, RS.seq, skipS, RE.to, setS, setLS, retS, dropS, ifS, andT, orT, notT, andV, orV, notV, ifM, valT, opB, op2, consM, mapM1, blM, callM, handM, isHnd, handGet, handSet, hstS, lstM, tupM, frzS, frzE, intD, absD, asgS, tgT, tgCons, tgN, tgNil, Option.bind_some, List.getElem?_cons_zero, List.getElem?_cons_succ, List.set_cons_succ, List.set_cons_zero, List.length_cons, List.length_nil, Nat.zero_add, Nat.reduceAdd, s2, if_true, e1, e2, e3, e4, Bool.not_true, Bool.false_eq_true, if_false]
def turnB : SM := (seqS (setS 8 (msM (pureM (.str [])) (consM (compM (mapM1 (consM (callM F__law_draw (consM (nameM 0) (consM (pureM (.int 6)) (pureM [])))) (pureM [])) rng1) (tgN 15) [15] (pureM true) (callM F__law_any (consM (nameM 0) (consM (lstM (consM (pureM (.str [97])) (consM (pureM (.str [98])) (pureM [])))) (pureM []))))) (pureM [])) joinD))
    (seqS (setS 9 (callM F__law_image (consM (nameM 6) (consM (nameM 8) (pureM [])))))
    (seqS (ifS (notT (valT (callM F__law_is (consM (callM F_image (consM (nameM 6) (consM (nameM 8) (pureM [])))) (consM (nameM 9) (pureM []))))))
    (retS (pureM (.bl false)))
    (skipS))
    (forS (seqItems (tupM (consM (nameM 9) (consM (nameM 8) (pureM []))))) (tgN 10) textB))))
theorem turnB_ev {T : List (Addr × Str)} {c0 c1 : List Nat} {h : Hand} (c : Cd c0 c1) (H : HOk T h) {x1 x2 x3 x4 x5 x7 x8 x9 x10 x11 x12 x13 x14 x15 : Option Sl} : ∃ y8 y9 y10 y13 y14 h', HOk T h' ∧
    turnB [some (.val .hnd), x1, x2, x3, x4, x5, some (.val (.tup [.str c0, .str c1])), x7, x8, x9, x10, x11, x12, x13, x14, x15] h = .ok .next [some (.val .hnd), x1, x2, x3, x4, x5, some (.val (.tup [.str c0, .str c1])), x7, y8, y9, y10, x11, x12, y13, y14, x15] h' := by
  obtain ⟨w, h', e1, ww, wl, H'⟩ := draw_word (T := T) (h := h) (m := 6) (ρ := [some (.val .hnd), x1, x2, x3, x4, x5, some (.val (.tup [.str c0, .str c1])), x7, x8, x9, x10, x11, x12, x13, x14, x15]) (i := 15) (by decide) rfl (by decide) (by decide) H
  have wl5 : w.length ≤ 5 := by omega
  have il := img_len c w
  have e2 := F_limg (c0 := c0) (c1 := c1) (h := h') ww (by omega) (by omega)
  have e3 := F_img (h := h') c ww (by omega)
  have e4 := is_s (h := h') (d := .str (img c0 c1 w)) rfl
  obtain ⟨a13, a14, t1⟩ := text_ev (h := h') c (img_wd c.1 c.2.1 w) (by omega) (x0 := some (.val .hnd)) (x1 := x1) (x2 := x2) (x3 := x3) (x4 := x4) (x5 := x5) (x7 := x7) (x8 := some (.val (.str w))) (x9 := some (.val (.str (img c0 c1 w)))) (x11 := x11) (x12 := x12) (x13 := x13) (x14 := x14) (x15 := x15)
  obtain ⟨b13, b14, t2⟩ := text_ev (h := h') c ww (by omega) (x0 := some (.val .hnd)) (x1 := x1) (x2 := x2) (x3 := x3) (x4 := x4) (x5 := x5) (x7 := x7) (x8 := some (.val (.str w))) (x9 := some (.val (.str (img c0 c1 w)))) (x11 := x11) (x12 := x12) (x13 := a13) (x14 := a14) (x15 := x15)
  have s2 : (2 : Nat) ≤ sizeLine := by decide
  refine ⟨some (.val (.str w)), some (.val (.str (img c0 c1 w))), some (.val (.str w)), b13, b14, h', H', ?_⟩
  unfold turnB
  generalize msM (pureM (.str [])) (consM (compM (mapM1 (consM (callM F__law_draw (consM (nameM 0) (consM (pureM (.int 6)) (pureM [])))) (pureM [])) rng1) (tgN 15) [15] (pureM true) (callM F__law_any (consM (nameM 0) (consM (lstM (consM (pureM (.str [97])) (consM (pureM (.str [98])) (pureM [])))) (pureM []))))) (pureM [])) joinD = mm at e1 ⊢
  generalize textB = tb at t1 t2 ⊢
  generalize img c0 c1 w = iw at *
  simp only [bindM, RE.bind, pureM, lift, nameM, viewM, seqS, RS.seq, skipS, RE.to, setS, setLS, retS, dropS, ifS, andT, orT, notT, andV, orV, notV, ifM, valT, opB, op2, consM, mapM1, blM, callM, handM, isHnd, handGet, handSet, hstS, lstM, tupM, frzS, frzE, intD, absD, forS, loopS, tgN, seqItems, List.getElem?_cons_zero, List.getElem?_cons_succ, List.set_cons_succ, List.set_cons_zero, List.length_cons, List.length_nil, Nat.zero_add, Nat.reduceAdd, s2, if_true, e1, e2, e3, e4, Bool.not_true, Bool.false_eq_true, if_false, t1, t2]
theorem turns_ev {T : List (Addr × Str)} {c0 c1 : List Nat} (c : Cd c0 c1) {x2 x3 x4 x5 x7 x11 x12 x15 : Option Sl} : ∀ (ts : List D) (x1 x8 x9 x10 x13 x14 : Option Sl) (h : Hand), HOk T h → ∃ y1 y8 y9 y10 y13 y14 h', HOk T h' ∧
    loopS (tgN 1) turnB ts [some (.val .hnd), x1, x2, x3, x4, x5, some (.val (.tup [.str c0, .str c1])), x7, x8, x9, x10, x11, x12, x13, x14, x15] h = .ok .next [some (.val .hnd), y1, x2, x3, x4, x5, some (.val (.tup [.str c0, .str c1])), x7, y8, y9, y10, x11, x12, y13, y14, x15] h'
  | [], x1, x8, x9, x10, x13, x14, h, H => ⟨x1, x8, x9, x10, x13, x14, h, H, rfl⟩
  | t :: ts, x1, x8, x9, x10, x13, x14, h, H => by
    obtain ⟨a8, a9, a10, a13, a14, h1, H1, e1⟩ := turnB_ev (T := T) c H (x1 := some (.val t)) (x2 := x2) (x3 := x3) (x4 := x4) (x5 := x5) (x7 := x7) (x8 := x8) (x9 := x9) (x10 := x10) (x11 := x11) (x12 := x12) (x13 := x13) (x14 := x14) (x15 := x15)
    obtain ⟨y1, y8, y9, y10, y13, y14, h2, H2, e2⟩ := turns_ev c ts (some (.val t)) a8 a9 a10 a13 a14 h1 H1
    refine ⟨y1, y8, y9, y10, y13, y14, h2, H2, ?_⟩
    rw [loopS]
    simp only [tgN, List.set_cons_succ, List.set_cons_zero, e1]
    exact e2
end G66

set_option Elab.async false
set_option linter.all false
set_option maxRecDepth 100000
set_option maxHeartbeats 4000000
namespace G66
open PySem DL
def lcp : List Nat → List Nat → List Nat
  | a :: x, b :: y => if a = b then a :: lcp x y else []
  | _, _ => []
def tao : List Nat → List Nat → Bool
  | a :: x, b :: y => if a = b then tao x y else true
  | _, _ => false
def begR : SM := (seqS (setS 1 (pureM (.int 0)))
    (seqS (whileN (andT (opB ltB (nameM 1) (mapM1 (consM (mapM1 (consM (op2 ixD (nameM 0) (pureM (.int 0))) (pureM [])) lenD) (consM (mapM1 (consM (op2 ixD (nameM 0) (pureM (.int 1))) (pureM [])) lenD) (pureM []))) min2D)) (opB eqB (op2 ixD (op2 ixD (nameM 0) (pureM (.int 0))) (nameM 1)) (op2 ixD (op2 ixD (nameM 0) (pureM (.int 1))) (nameM 1))))
    (setS 1 (op2 addD (nameM 1) (pureM (.int 1)))) FUEL)
    (retS (sliceM (op2 ixD (nameM 0) (pureM (.int 0))) (partM none) (partM (some (nameM 1)))))))
def tolR : SM := (seqS (setS 1 (mapM1 (consM (mapM1 (consM (op2 ixD (nameM 0) (pureM (.int 0))) (pureM [])) lenD) (consM (mapM1 (consM (op2 ixD (nameM 0) (pureM (.int 1))) (pureM [])) lenD) (pureM []))) min2D))
    (retS (blM (opB neB (sliceM (op2 ixD (nameM 0) (pureM (.int 0))) (partM none) (partM (some (nameM 1)))) (sliceM (op2 ixD (nameM 0) (pureM (.int 1))) (partM none) (partM (some (nameM 1))))))))
def samS : SM := (forS (mapM1 (consM (mapM1 (consM (mapM1 (consM (nameM 11) (pureM [])) lenD) (consM (mapM1 (consM (nameM 12) (pureM [])) lenD) (pureM []))) min2D) (pureM [])) rng1) (tgN 3)
    (setS 2 (ifM (opB eqB (sliceM (nameM 11) (partM none) (partM (some (op2 addD (nameM 3) (pureM (.int 1)))))) (sliceM (nameM 12) (partM none) (partM (some (op2 addD (nameM 3) (pureM (.int 1))))))) (sliceM (nameM 11) (partM none) (partM (some (op2 addD (nameM 3) (pureM (.int 1)))))) (nameM 2))))
def flgM : EM D := (andV (blM (opB neB (sliceM (nameM 11) (partM none) (partM (some (mapM1 (consM (nameM 12) (pureM [])) lenD)))) (nameM 12))) (blM (opB neB (sliceM (nameM 12) (partM none) (partM (some (mapM1 (consM (nameM 11) (pureM [])) lenD)))) (nameM 11))))
def endOf : RS → Option D
  | .ok (.ret d) _ _ => some d
  | _ => none
structure PP (c0 c1 : List Nat) : Prop where
  beg : ∀ h, ∃ ρ, begR [some (.val (.tup [.str c0, .str c1])), none] h = .ok (.ret (.str (lcp c0 c1))) ρ h
  tol : ∀ h, ∃ ρ, tolR [some (.val (.tup [.str c0, .str c1])), none] h = .ok (.ret (.bl (tao c0 c1))) ρ h
  sam : ∀ (h : Hand) (x0 x1 x3 x4 x5 x6 x7 x8 x9 x10 x13 x14 x15 : Option Sl), ∃ y3, samS [x0, x1, some (.val (.str [])), x3, x4, x5, x6, x7, x8, x9, x10, some (.val (.str c0)), some (.val (.str c1)), x13, x14, x15] h = .ok .next [x0, x1, some (.val (.str (lcp c0 c1))), y3, x4, x5, x6, x7, x8, x9, x10, some (.val (.str c0)), some (.val (.str c1)), x13, x14, x15] h
  flg : ∀ (h : Hand) (x0 x1 x2 x3 x4 x5 x6 x7 x8 x9 x10 x13 x14 x15 : Option Sl), flgM [x0, x1, x2, x3, x4, x5, x6, x7, x8, x9, x10, some (.val (.str c0)), some (.val (.str c1)), x13, x14, x15] h = .ok (.bl (tao c0 c1)) h
end G66

set_option Elab.async false
set_option linter.all false
set_option maxRecDepth 100000
set_option maxHeartbeats 4000000
namespace G66
open PySem DL
theorem F_beg {c0 c1 : List Nat} {h : Hand} (c : Cd c0 c1) (pp : PP c0 c1) : F_begins_alike [.tup [.str c0, .str c1]] h = .ok (.str (lcp c0 c1)) h := by
  have k1 := F_chkcode (h := h) c
  obtain ⟨ρ, e⟩ := pp.beg h
  show fnD 2 B_begins_alike _ h = _
  unfold fnD
  rw [show en0 2 [.tup [.str c0, .str c1]] = [some (.val (.tup [.str c0, .str c1])), none] from rfl]
  have e0 : B_begins_alike = seqS (dropS (callM F_check_code (consM (nameM 0) (pureM [])))) begR := rfl
  rw [e0]
  generalize begR = b at e ⊢
  simp only [bindM, RE.bind, pureM, lift, nameM, viewM, seqS, RS.seq, skipS, RE.to, setS, setLS, retS, dropS, ifS, andT, orT, notT, andV, orV, notV, ifM, valT, opB, op2, consM, mapM1, blM, callM, handM, isHnd, handGet, handSet, hstS, lstM, tupM, frzS, frzE, intD, absD, List.getElem?_cons_zero, k1, e]
theorem F_tol {c0 c1 : List Nat} {h : Hand} (c : Cd c0 c1) (pp : PP c0 c1) : F_told_at_once [.tup [.str c0, .str c1]] h = .ok (.bl (tao c0 c1)) h := by
  have k1 := F_chkcode (h := h) c
  obtain ⟨ρ, e⟩ := pp.tol h
  show fnD 2 B_told_at_once _ h = _
  unfold fnD
  rw [show en0 2 [.tup [.str c0, .str c1]] = [some (.val (.tup [.str c0, .str c1])), none] from rfl]
  have e0 : B_told_at_once = seqS (dropS (callM F_check_code (consM (nameM 0) (pureM [])))) tolR := rfl
  rw [e0]
  generalize tolR = b at e ⊢
  simp only [bindM, RE.bind, pureM, lift, nameM, viewM, seqS, RS.seq, skipS, RE.to, setS, setLS, retS, dropS, ifS, andT, orT, notT, andV, orV, notV, ifM, valT, opB, op2, consM, mapM1, blM, callM, handM, isHnd, handGet, handSet, hstS, lstM, tupM, frzS, frzE, intD, absD, List.getElem?_cons_zero, k1, e]
theorem F_case {T : List (Addr × Str)} {P : Addr} {h : Hand} (pp : ∀ c0 c1, Cd c0 c1 → PP c0 c1) (hT : (P, q__law_case_right) ∈ T ∧ ∀ p ∈ T, p.1 = P → p.2 = q__law_case_right) (H : HOk T h) : ∃ h', F__law_case_right P [.hnd] h = .ok (.bl true) h' ∧ HOk T h' := by
  obtain ⟨c0, c1, h1, e1, c, H1⟩ := F_code H
  obtain ⟨l0, l1, h2, e2, d, H2⟩ := F_code H1
  have p := pp c0 c1 c
  have s2 : (2 : Nat) ≤ sizeLine := by decide
  obtain ⟨y1, y8, y9, y10, y13, y14, h3, H3, e3⟩ := turns_ev (T := T) c (x2 := none) (x3 := none) (x4 := none) (x5 := none) (x7 := some (.val (.tup [.str l0, .str l1]))) (x11 := none) (x12 := none) (x15 := none) [.int 0, .int 1, .int 2, .int 3, .int 4] none none none none none none h2 H2
  have rg : rng1 [.int 5] = some [.int 0, .int 1, .int 2, .int 3, .int 4] := rfl
  obtain ⟨y3, e4⟩ := p.sam h3 (some (.val .hnd)) y1 none none none (some (.val (.tup [.str c0, .str c1]))) (some (.val (.tup [.str l0, .str l1]))) y8 y9 y10 y13 y14 none
  have e5 := p.flg h3 (some (.val .hnd)) y1 (some (.val (.str (lcp c0 c1)))) y3 none none (some (.val (.tup [.str c0, .str c1]))) (some (.val (.tup [.str l0, .str l1]))) y8 y9 y10 y13 y14 none
  have e6 := F_beg (h := h3) c p
  have e7 := F_tol (h := h3) c p
  have e8 := is_l (h := h3) (ds := [.str (lcp c0 c1), .bl (tao c0 c1)]) (by intro d hd; simp at hd; rcases hd with rfl | rfl <;> rfl) (by simp)
  have b0 := img16 (c := c0) d c.2.2.1
  have b1 := img16 (c := c1) d c.2.2.2
  have i0 := F_limg (c0 := l0) (c1 := l1) (h := h3) c.1 (by have := c.2.2.1; omega) (by omega)
  have i1 := F_limg (c0 := l0) (c1 := l1) (h := h3) c.2.1 (by have := c.2.2.2; omega) (by omega)
  have e9 := due_ev (a := img l0 l1 c0) (b := img l0 l1 c1) (h := h3) (x0 := some (.val .hnd)) (x1 := y1) (x2 := some (.val (.str (lcp c0 c1)))) (x3 := y3) (x4 := some (.val (.bl (tao c0 c1)))) (x6 := some (.val (.tup [.str c0, .str c1]))) (x7 := some (.val (.tup [.str l0, .str l1]))) (x8 := y8) (x9 := y9) (x10 := y10) (x11 := some (.val (.str c0))) (x12 := some (.val (.str c1))) (x13 := y13) (x14 := y14) (x15 := none) b0 b1
  have e10 := word_join (P := P) (q := q__law_case_right) (h := h3) (ρ := [some (.val .hnd), y1, some (.val (.str (lcp c0 c1))), y3, some (.val (.bl (tao c0 c1))), some (.val (dueJ (img l0 l1 c0) (img l0 l1 c1))), some (.val (.tup [.str c0, .str c1])), some (.val (.tup [.str l0, .str l1])), y8, y9, y10, some (.val (.str c0)), some (.val (.str c1)), y13, y14, none]) c d rfl rfl (by rw [H3.2]; exact hT)
  have e11 := is_due (a := img l0 l1 c0) (b := img l0 l1 c1) (h := h3)
  obtain ⟨h4, e12, H4⟩ := F_sright c H3
  refine ⟨h4, ?_, H4⟩
  show fnD 16 (B__law_case_right P) [.hnd] h = _
  unfold fnD
  rw [show en0 16 [.hnd] = [some (.val .hnd), none, none, none, none, none, none, none, none, none, none, none, none, none, none, none] from rfl]
  have e0 : B__law_case_right P = seqS (asgS (tgT 2 (tgCons (tgN 6) (tgCons (tgN 7) (tgNil)))) (tupM (consM (callM F__law_code (consM (nameM 0) (pureM []))) (consM (callM F__law_code (consM (nameM 0) (pureM []))) (pureM [])))))
    (seqS (forS (mapM1 (consM (pureM (.int 5)) (pureM [])) rng1) (tgN 1) turnB)
    (seqS (asgS (tgT 2 (tgCons (tgN 11) (tgCons (tgN 12) (tgNil)))) (nameM 6))
    (seqS (setS 2 (pureM (.str [])))
    (seqS samS
    (seqS (setS 4 flgM)
    (seqS (ifS (notT (valT (callM F__law_is (consM (lstM (consM (callM F_begins_alike (consM (nameM 6) (pureM []))) (consM (callM F_told_at_once (consM (nameM 6) (pureM []))) (pureM [])))) (consM (lstM (consM (nameM 2) (consM (nameM 4) (pureM [])))) (pureM []))))))
    (retS (pureM (.bl false)))
    (skipS))
    (seqS (setS 5 (tupM (consM (callM F__law_image (consM (nameM 7) (consM (nameM 11) (pureM [])))) (consM (callM F__law_image (consM (nameM 7) (consM (nameM 12) (pureM [])))) (pureM [])))))
    (seqS (setS 5 (ifM (opB gtB (mapM1 (consM (compM (seqItems (nameM 5)) (tgN 15) [15] (pureM true) (mapM1 (consM (nameM 15) (pureM [])) lenD)) (pureM [])) maxD) (pureM (.int 4))) (pureM (.str [33, 78, 111, 67, 111, 100, 101])) (nameM 5)))
    (retS (andV (callM F__law_is (consM (wordM P q__law_case_right (callM F_joined_codes (consM (nameM 6) (consM (nameM 7) (pureM []))))) (consM (nameM 5) (pureM [])))) (callM F__law_sure_right (consM (nameM 0) (consM (nameM 6) (pureM [])))))))))))))) := rfl
  rw [e0]
  generalize ifM (opB gtB (mapM1 (consM (compM (seqItems (nameM 5)) (tgN 15) [15] (pureM true) (mapM1 (consM (nameM 15) (pureM [])) lenD)) (pureM [])) maxD) (pureM (.int 4))) (pureM (.str [33, 78, 111, 67, 111, 100, 101])) (nameM 5) = fd at e9 ⊢
  generalize wordM P q__law_case_right (callM F_joined_codes (consM (nameM 6) (consM (nameM 7) (pureM [])))) = fw at e10 ⊢
  generalize turnB = tb at e3 ⊢
  generalize samS = sb at e4 ⊢
  generalize flgM = fl at e5 ⊢
  generalize dueJ (img l0 l1 c0) (img l0 l1 c1) = du at e9 e10 e11
  generalize img l0 l1 c0 = im0 at *
  generalize img l0 l1 c1 = im1 at *
  generalize lcp c0 c1 = lc at *
  generalize tao c0 c1 = ta at *
  simp only [bindM, RE.bind, pureM, lift, nameM, viewM, seqS, RS.seq, skipS, RE.to, setS, setLS, retS, dropS, ifS, andT, orT, notT, andV, orV, notV, ifM, valT, opB, op2, consM, mapM1, blM, callM, handM, isHnd, handGet, handSet, hstS, lstM, tupM, frzS, frzE, intD, absD, asgS, tgT, tgCons, tgN, tgNil, Option.bind_some, forS, rg, List.getElem?_cons_zero, List.getElem?_cons_succ, List.set_cons_succ, List.set_cons_zero, List.length_cons, List.length_nil, Nat.zero_add, Nat.reduceAdd, s2, if_true, e1, e2, e3, e4, e5, e6, e7, e8, Bool.not_true, Bool.false_eq_true, if_false, i0, i1, e9, e10, e11, e12]
end G66

set_option Elab.async false
set_option linter.all false
set_option maxRecDepth 100000
set_option maxHeartbeats 4000000
namespace G66
open PySem DL
def badL : List D := [.non, .tup [], .tup [.str [97]], .lst [.str [97], .str [98]], .tup [.str [97, 98, 98, 97, 98], .str [97]], .tup [.str [99], .str [97]], .tup [.str [97], .int 5], .str [97, 98]]
theorem told1 (h : Hand) : F_image [.tup [.str [97, 98], .str [98]], .str [97, 97, 98]] h = .ok (.str [97, 98, 97, 98, 98]) h := by with_unfolding_all rfl
theorem told2 (h : Hand) : F_read_back [.tup [.str [97, 98], .str [98]], .str [97, 98, 98]] h = .ok (.str [97, 98]) h := rfl
theorem told3 (h : Hand) : F_many_back [.tup [.str [97], .str [97, 97]], .str [97, 97, 97]] h = .ok (.int 3) h := rfl
theorem told4 (h : Hand) : F_many_back [.tup [.str [], .str [98]], .str [98]] h = .ok .non h := rfl
theorem bad_img {d : D} (hd : d ∈ badL) (h : Hand) : F_image [d, .non] h = .err "NoCode" h := by
  unfold badL at hd
  simp only [List.mem_cons, List.not_mem_nil, or_false] at hd
  rcases hd with rfl | rfl | rfl | rfl | rfl | rfl | rfl | rfl
  · with_unfolding_all rfl
  · with_unfolding_all rfl
  · with_unfolding_all rfl
  · with_unfolding_all rfl
  · with_unfolding_all rfl
  · with_unfolding_all rfl
  · with_unfolding_all rfl
  · with_unfolding_all rfl
theorem bad_word (h : Hand) : F_image [.tup [.str [97], .str [98]], .str [97, 98, 99]] h = .err "NoWord" h := by with_unfolding_all rfl
theorem bad_join {d : D} (hd : d ∈ badL) (h : Hand) : F_joined_codes [.tup [.str [97], .str [98]], d] h = .err "NoCode" h := by
  unfold badL at hd
  simp only [List.mem_cons, List.not_mem_nil, or_false] at hd
  rcases hd with rfl | rfl | rfl | rfl | rfl | rfl | rfl | rfl
  · with_unfolding_all rfl
  · with_unfolding_all rfl
  · with_unfolding_all rfl
  · with_unfolding_all rfl
  · with_unfolding_all rfl
  · with_unfolding_all rfl
  · with_unfolding_all rfl
  · with_unfolding_all rfl
theorem word_c {P : Addr} {q : Str} {f : EM D} {ρ : En} {h : Hand} (hT : (P, q) ∈ h.T ∧ ∀ p ∈ h.T, p.1 = P → p.2 = q) (e : f ρ h = .err "NoCode" h) : wordM P q f ρ h = .ok (.str [33, 78, 111, 67, 111, 100, 101]) h := by
  unfold wordM
  rw [if_pos hT, e]
  rfl
theorem word_w {P : Addr} {q : Str} {f : EM D} {ρ : En} {h : Hand} (hT : (P, q) ∈ h.T ∧ ∀ p ∈ h.T, p.1 = P → p.2 = q) (e : f ρ h = .err "NoWord" h) : wordM P q f ρ h = .ok (.str [33, 78, 111, 87, 111, 114, 100]) h := by
  unfold wordM
  rw [if_pos hT, e]
  rfl
theorem bls_all : ∀ {ds : List D}, (∀ d ∈ ds, d = .bl true) → ∃ bs, blsD ds = some bs ∧ bs.all id = true
  | [], _ => ⟨[], rfl, rfl⟩
  | d :: ds, H => by
    obtain ⟨bs, e1, e2⟩ := bls_all fun d hd => H d (.tail _ hd)
    have ed := H d (.head _)
    subst ed
    refine ⟨true :: bs, ?_, by simpa using e2⟩
    show (blsD ds).map _ = _
    rw [e1]
    rfl
theorem all_ev {ds : List D} (H : ∀ d ∈ ds, d = .bl true) : allD [.lst ds] = some (.bl true) := by
  obtain ⟨bs, e1, e2⟩ := bls_all H
  show (blsD ds).map _ = _
  rw [e1, Option.map_some, e2]
theorem law_ev (pp : ∀ c0 c1, Cd c0 c1 → PP c0 c1) {P P' : Addr} {h : Hand} (hne : P' ≠ P) (H : HOk [(P, q_law), (P', q__law_case_right)] h) : ∃ ρ' h', B_law P P' [none, some (.val .hnd), none, none, none, none] h = .ok (.ret (.bl true)) ρ' h' := by
  have s8 : (1000 : Nat) ≤ sizeLine := by decide
  have s2 : (2 : Nat) ≤ sizeLine := by decide
  have s3 : (3 : Nat) < sizeLine := by decide
  have s33 : (3 : Nat) ≤ sizeLine := by decide
  have s0 : (0 : Nat) ≤ sizeLine := by decide
  have s1 : (1 : Nat) ≤ sizeLine := by decide
  have s88 : (8 : Nat) ≤ sizeLine := by decide
  have s22 : (2 : Nat) < sizeLine := by decide
  have s4 : (4 : Nat) ≤ sizeLine := by decide
  have t1 : ∀ p ∈ [(P, q_law), (P', q__law_case_right)], p.1 = P → p.2 = q_law := fun p hp e => by
    rcases List.mem_cons.mp hp with rfl | hp
    · rfl
    · rw [List.mem_singleton.mp hp] at e; exact absurd e hne
  have t2 : ∀ p ∈ [(P, q_law), (P', q__law_case_right)], p.1 = P' → p.2 = q__law_case_right := fun p hp e => by
    rcases List.mem_cons.mp hp with rfl | hp
    · exact absurd e.symm hne
    · rw [List.mem_singleton.mp hp]
  have e1 := told1 h
  have e2 := told2 h
  have e3 := told3 h
  have e4 := told4 h
  have e5 := is_l (h := h) (ds := [.str [97, 98, 97, 98, 98], .str [97, 98], .int 3, .non]) (by intro d hd; simp at hd; rcases hd with rfl | rfl | rfl | rfl <;> rfl) (by simp)
  obtain ⟨bad, h1, e6, hb, H1⟩ := F_any (ds := badL) (by simp [badL]) (by simp [badL]) H
  have hT1 : (P, q_law) ∈ h1.T ∧ ∀ p ∈ h1.T, p.1 = P → p.2 = q_law := by rw [H1.2]; exact ⟨.head _, t1⟩
  have i1 := bad_img hb h1
  have i2 := bad_word h1
  have i3 := bad_join hb h1
  unfold badL at e6
  have w1 : ∀ x2 x4, wordM P q_law (callM F_image (consM (nameM 3) (consM (pureM .non) (pureM [])))) [none, some (.val .hnd), x2, some (.val bad), x4, none] h1 = .ok (.str [33, 78, 111, 67, 111, 100, 101]) h1 := fun x2 x4 => word_c hT1 (by simp only [bindM, RE.bind, pureM, lift, nameM, viewM, seqS, RS.seq, skipS, RE.to, setS, setLS, retS, dropS, ifS, andT, orT, notT, andV, orV, notV, ifM, valT, opB, op2, consM, mapM1, blM, callM, handM, isHnd, handGet, handSet, hstS, lstM, tupM, frzS, frzE, intD, absD, List.getElem?_cons_zero, List.getElem?_cons_succ, i1])
  have w2 : ∀ x2 x4, wordM P q_law (callM F_image (consM (tupM (consM (pureM (.str [97])) (consM (pureM (.str [98])) (pureM [])))) (consM (pureM (.str [97, 98, 99])) (pureM [])))) [none, some (.val .hnd), x2, some (.val bad), x4, none] h1 = .ok (.str [33, 78, 111, 87, 111, 114, 100]) h1 := fun x2 x4 => word_w hT1 (by simp only [bindM, RE.bind, pureM, lift, nameM, viewM, seqS, RS.seq, skipS, RE.to, setS, setLS, retS, dropS, ifS, andT, orT, notT, andV, orV, notV, ifM, valT, opB, op2, consM, mapM1, blM, callM, handM, isHnd, handGet, handSet, hstS, lstM, tupM, frzS, frzE, intD, absD, List.length_cons, List.length_nil, Nat.zero_add, Nat.reduceAdd, s2, if_true, i2])
  have w3 : ∀ x2 x4, wordM P q_law (callM F_joined_codes (consM (tupM (consM (pureM (.str [97])) (consM (pureM (.str [98])) (pureM [])))) (consM (nameM 3) (pureM [])))) [none, some (.val .hnd), x2, some (.val bad), x4, none] h1 = .ok (.str [33, 78, 111, 67, 111, 100, 101]) h1 := fun x2 x4 => word_c hT1 (by simp only [bindM, RE.bind, pureM, lift, nameM, viewM, seqS, RS.seq, skipS, RE.to, setS, setLS, retS, dropS, ifS, andT, orT, notT, andV, orV, notV, ifM, valT, opB, op2, consM, mapM1, blM, callM, handM, isHnd, handGet, handSet, hstS, lstM, tupM, frzS, frzE, intD, absD, List.getElem?_cons_zero, List.getElem?_cons_succ, List.length_cons, List.length_nil, Nat.zero_add, Nat.reduceAdd, s2, if_true, i3])
  have ne : neB (.lst [.str [33, 78, 111, 67, 111, 100, 101], .str [33, 78, 111, 87, 111, 114, 100], .str [33, 78, 111, 67, 111, 100, 101]]) (.lst [.str [33, 78, 111, 67, 111, 100, 101], .str [33, 78, 111, 87, 111, 114, 100], .str [33, 78, 111, 67, 111, 100, 101]]) = some false := rfl
  have rg : rng1 [.int 4] = some [.int 0, .int 1, .int 2, .int 3] := rfl
  obtain ⟨ys, h2, c1, _, c2, H2⟩ := comp_state (T := [(P, q_law), (P', q__law_case_right)]) (g := tgN 5) (t := pureM true) (e := callM (F__law_case_right P') (consM (nameM 1) (pureM []))) (ρ := [none, some (.val .hnd), some (.val (.lst [.str [97, 98, 97, 98, 98], .str [97, 98], .int 3, .non])), some (.val bad), some (.own [.str [33, 78, 111, 67, 111, 100, 101], .str [33, 78, 111, 87, 111, 114, 100], .str [33, 78, 111, 67, 111, 100, 101]]), none]) (fun y => y = .bl true) (fun d h H => by
    obtain ⟨h', e, H'⟩ := F_case (P := P') pp ⟨.tail _ (.head _), t2⟩ H
    refine ⟨_, .bl true, h', rfl, rfl, ?_, rfl, H'⟩
    simp only [bindM, RE.bind, pureM, lift, nameM, viewM, seqS, RS.seq, skipS, RE.to, setS, setLS, retS, dropS, ifS, andT, orT, notT, andV, orV, notV, ifM, valT, opB, op2, consM, mapM1, blM, callM, handM, isHnd, handGet, handSet, hstS, lstM, tupM, frzS, frzE, intD, absD, List.getElem?_cons_zero, List.getElem?_cons_succ, List.set_cons_succ, List.set_cons_zero, e]) [.int 0, .int 1, .int 2, .int 3] h1 H1
  have al := all_ev c2
  refine ⟨[none, some (.val .hnd), some (.val (.lst [.str [97, 98, 97, 98, 98], .str [97, 98], .int 3, .non])), some (.val bad), some (.own [.str [33, 78, 111, 67, 111, 100, 101], .str [33, 78, 111, 87, 111, 114, 100], .str [33, 78, 111, 67, 111, 100, 101]]), none], h2, ?_⟩
  unfold B_law
  generalize wordM P q_law (callM F_image (consM (nameM 3) (consM (pureM .non) (pureM [])))) = f1 at w1 ⊢
  generalize wordM P q_law (callM F_image (consM (tupM (consM (pureM (.str [97])) (consM (pureM (.str [98])) (pureM [])))) (consM (pureM (.str [97, 98, 99])) (pureM [])))) = f2 at w2 ⊢
  generalize wordM P q_law (callM F_joined_codes (consM (tupM (consM (pureM (.str [97])) (consM (pureM (.str [98])) (pureM [])))) (consM (nameM 3) (pureM [])))) = f3 at w3 ⊢
  generalize callM (F__law_case_right P') (consM (nameM 1) (pureM [])) = f4 at c1 ⊢
  simp only [bindM, RE.bind, pureM, lift, nameM, viewM, seqS, RS.seq, skipS, RE.to, setS, setLS, retS, dropS, ifS, andT, orT, notT, andV, orV, notV, ifM, valT, opB, op2, consM, mapM1, blM, callM, handM, isHnd, handGet, handSet, hstS, lstM, tupM, frzS, frzE, intD, absD, appS', ownAt, compM, rg, wipeE, List.foldl_cons, List.foldl_nil, List.getElem?_cons_zero, List.getElem?_cons_succ, List.set_cons_succ, List.set_cons_zero, List.length_cons, List.length_nil, Nat.zero_add, Nat.reduceAdd, List.cons_append, List.nil_append, s0, s1, s2, s3, s4, s22, s33, s88, if_true, e1, e2, e3, e4, e5, e6, w1, w2, w3, ne, c1, al, Bool.not_true, Bool.false_eq_true, if_false]
end G66

set_option Elab.async false
set_option linter.all false
set_option maxRecDepth 100000
set_option maxHeartbeats 4000000
namespace G66
open PySem DL

def allW : List (List Nat) := [[], [97], [98], [97, 97], [97, 98], [98, 97], [98, 98], [97, 97, 97], [97, 97, 98], [97, 98, 97], [97, 98, 98], [98, 97, 97], [98, 97, 98], [98, 98, 97], [98, 98, 98], [97, 97, 97, 97], [97, 97, 97, 98], [97, 97, 98, 97], [97, 97, 98, 98], [97, 98, 97, 97], [97, 98, 97, 98], [97, 98, 98, 97], [97, 98, 98, 98], [98, 97, 97, 97], [98, 97, 97, 98], [98, 97, 98, 97], [98, 97, 98, 98], [98, 98, 97, 97], [98, 98, 97, 98], [98, 98, 98, 97], [98, 98, 98, 98]]
theorem pp_0_0 : PP [] [] := ⟨fun _ => ⟨_, rfl⟩, fun _ => ⟨_, rfl⟩, fun _ _ _ _ _ _ _ _ _ _ _ _ _ _ => ⟨_, rfl⟩, fun _ _ _ _ _ _ _ _ _ _ _ _ _ _ _ => rfl⟩
theorem pp_0_1 : PP [] [97] := ⟨fun _ => ⟨_, rfl⟩, fun _ => ⟨_, rfl⟩, fun _ _ _ _ _ _ _ _ _ _ _ _ _ _ => ⟨_, rfl⟩, fun _ _ _ _ _ _ _ _ _ _ _ _ _ _ _ => rfl⟩
theorem pp_0_2 : PP [] [98] := ⟨fun _ => ⟨_, rfl⟩, fun _ => ⟨_, rfl⟩, fun _ _ _ _ _ _ _ _ _ _ _ _ _ _ => ⟨_, rfl⟩, fun _ _ _ _ _ _ _ _ _ _ _ _ _ _ _ => rfl⟩
theorem pp_0_3 : PP [] [97, 97] := ⟨fun _ => ⟨_, rfl⟩, fun _ => ⟨_, rfl⟩, fun _ _ _ _ _ _ _ _ _ _ _ _ _ _ => ⟨_, rfl⟩, fun _ _ _ _ _ _ _ _ _ _ _ _ _ _ _ => rfl⟩
theorem pp_0_4 : PP [] [97, 98] := ⟨fun _ => ⟨_, rfl⟩, fun _ => ⟨_, rfl⟩, fun _ _ _ _ _ _ _ _ _ _ _ _ _ _ => ⟨_, rfl⟩, fun _ _ _ _ _ _ _ _ _ _ _ _ _ _ _ => rfl⟩
theorem pp_0_5 : PP [] [98, 97] := ⟨fun _ => ⟨_, rfl⟩, fun _ => ⟨_, rfl⟩, fun _ _ _ _ _ _ _ _ _ _ _ _ _ _ => ⟨_, rfl⟩, fun _ _ _ _ _ _ _ _ _ _ _ _ _ _ _ => rfl⟩
theorem pp_0_6 : PP [] [98, 98] := ⟨fun _ => ⟨_, rfl⟩, fun _ => ⟨_, rfl⟩, fun _ _ _ _ _ _ _ _ _ _ _ _ _ _ => ⟨_, rfl⟩, fun _ _ _ _ _ _ _ _ _ _ _ _ _ _ _ => rfl⟩
theorem pp_0_7 : PP [] [97, 97, 97] := ⟨fun _ => ⟨_, rfl⟩, fun _ => ⟨_, rfl⟩, fun _ _ _ _ _ _ _ _ _ _ _ _ _ _ => ⟨_, rfl⟩, fun _ _ _ _ _ _ _ _ _ _ _ _ _ _ _ => rfl⟩
theorem pp_0_8 : PP [] [97, 97, 98] := ⟨fun _ => ⟨_, rfl⟩, fun _ => ⟨_, rfl⟩, fun _ _ _ _ _ _ _ _ _ _ _ _ _ _ => ⟨_, rfl⟩, fun _ _ _ _ _ _ _ _ _ _ _ _ _ _ _ => rfl⟩
theorem pp_0_9 : PP [] [97, 98, 97] := ⟨fun _ => ⟨_, rfl⟩, fun _ => ⟨_, rfl⟩, fun _ _ _ _ _ _ _ _ _ _ _ _ _ _ => ⟨_, rfl⟩, fun _ _ _ _ _ _ _ _ _ _ _ _ _ _ _ => rfl⟩
theorem pp_0_10 : PP [] [97, 98, 98] := ⟨fun _ => ⟨_, rfl⟩, fun _ => ⟨_, rfl⟩, fun _ _ _ _ _ _ _ _ _ _ _ _ _ _ => ⟨_, rfl⟩, fun _ _ _ _ _ _ _ _ _ _ _ _ _ _ _ => rfl⟩
theorem pp_0_11 : PP [] [98, 97, 97] := ⟨fun _ => ⟨_, rfl⟩, fun _ => ⟨_, rfl⟩, fun _ _ _ _ _ _ _ _ _ _ _ _ _ _ => ⟨_, rfl⟩, fun _ _ _ _ _ _ _ _ _ _ _ _ _ _ _ => rfl⟩
theorem pp_0_12 : PP [] [98, 97, 98] := ⟨fun _ => ⟨_, rfl⟩, fun _ => ⟨_, rfl⟩, fun _ _ _ _ _ _ _ _ _ _ _ _ _ _ => ⟨_, rfl⟩, fun _ _ _ _ _ _ _ _ _ _ _ _ _ _ _ => rfl⟩
theorem pp_0_13 : PP [] [98, 98, 97] := ⟨fun _ => ⟨_, rfl⟩, fun _ => ⟨_, rfl⟩, fun _ _ _ _ _ _ _ _ _ _ _ _ _ _ => ⟨_, rfl⟩, fun _ _ _ _ _ _ _ _ _ _ _ _ _ _ _ => rfl⟩
theorem pp_0_14 : PP [] [98, 98, 98] := ⟨fun _ => ⟨_, rfl⟩, fun _ => ⟨_, rfl⟩, fun _ _ _ _ _ _ _ _ _ _ _ _ _ _ => ⟨_, rfl⟩, fun _ _ _ _ _ _ _ _ _ _ _ _ _ _ _ => rfl⟩
theorem pp_0_15 : PP [] [97, 97, 97, 97] := ⟨fun _ => ⟨_, rfl⟩, fun _ => ⟨_, rfl⟩, fun _ _ _ _ _ _ _ _ _ _ _ _ _ _ => ⟨_, rfl⟩, fun _ _ _ _ _ _ _ _ _ _ _ _ _ _ _ => rfl⟩
theorem pp_0_16 : PP [] [97, 97, 97, 98] := ⟨fun _ => ⟨_, rfl⟩, fun _ => ⟨_, rfl⟩, fun _ _ _ _ _ _ _ _ _ _ _ _ _ _ => ⟨_, rfl⟩, fun _ _ _ _ _ _ _ _ _ _ _ _ _ _ _ => rfl⟩
theorem pp_0_17 : PP [] [97, 97, 98, 97] := ⟨fun _ => ⟨_, rfl⟩, fun _ => ⟨_, rfl⟩, fun _ _ _ _ _ _ _ _ _ _ _ _ _ _ => ⟨_, rfl⟩, fun _ _ _ _ _ _ _ _ _ _ _ _ _ _ _ => rfl⟩
theorem pp_0_18 : PP [] [97, 97, 98, 98] := ⟨fun _ => ⟨_, rfl⟩, fun _ => ⟨_, rfl⟩, fun _ _ _ _ _ _ _ _ _ _ _ _ _ _ => ⟨_, rfl⟩, fun _ _ _ _ _ _ _ _ _ _ _ _ _ _ _ => rfl⟩
theorem pp_0_19 : PP [] [97, 98, 97, 97] := ⟨fun _ => ⟨_, rfl⟩, fun _ => ⟨_, rfl⟩, fun _ _ _ _ _ _ _ _ _ _ _ _ _ _ => ⟨_, rfl⟩, fun _ _ _ _ _ _ _ _ _ _ _ _ _ _ _ => rfl⟩
theorem pp_0_20 : PP [] [97, 98, 97, 98] := ⟨fun _ => ⟨_, rfl⟩, fun _ => ⟨_, rfl⟩, fun _ _ _ _ _ _ _ _ _ _ _ _ _ _ => ⟨_, rfl⟩, fun _ _ _ _ _ _ _ _ _ _ _ _ _ _ _ => rfl⟩
theorem pp_0_21 : PP [] [97, 98, 98, 97] := ⟨fun _ => ⟨_, rfl⟩, fun _ => ⟨_, rfl⟩, fun _ _ _ _ _ _ _ _ _ _ _ _ _ _ => ⟨_, rfl⟩, fun _ _ _ _ _ _ _ _ _ _ _ _ _ _ _ => rfl⟩
theorem pp_0_22 : PP [] [97, 98, 98, 98] := ⟨fun _ => ⟨_, rfl⟩, fun _ => ⟨_, rfl⟩, fun _ _ _ _ _ _ _ _ _ _ _ _ _ _ => ⟨_, rfl⟩, fun _ _ _ _ _ _ _ _ _ _ _ _ _ _ _ => rfl⟩
theorem pp_0_23 : PP [] [98, 97, 97, 97] := ⟨fun _ => ⟨_, rfl⟩, fun _ => ⟨_, rfl⟩, fun _ _ _ _ _ _ _ _ _ _ _ _ _ _ => ⟨_, rfl⟩, fun _ _ _ _ _ _ _ _ _ _ _ _ _ _ _ => rfl⟩
theorem pp_0_24 : PP [] [98, 97, 97, 98] := ⟨fun _ => ⟨_, rfl⟩, fun _ => ⟨_, rfl⟩, fun _ _ _ _ _ _ _ _ _ _ _ _ _ _ => ⟨_, rfl⟩, fun _ _ _ _ _ _ _ _ _ _ _ _ _ _ _ => rfl⟩
theorem pp_0_25 : PP [] [98, 97, 98, 97] := ⟨fun _ => ⟨_, rfl⟩, fun _ => ⟨_, rfl⟩, fun _ _ _ _ _ _ _ _ _ _ _ _ _ _ => ⟨_, rfl⟩, fun _ _ _ _ _ _ _ _ _ _ _ _ _ _ _ => rfl⟩
theorem pp_0_26 : PP [] [98, 97, 98, 98] := ⟨fun _ => ⟨_, rfl⟩, fun _ => ⟨_, rfl⟩, fun _ _ _ _ _ _ _ _ _ _ _ _ _ _ => ⟨_, rfl⟩, fun _ _ _ _ _ _ _ _ _ _ _ _ _ _ _ => rfl⟩
theorem pp_0_27 : PP [] [98, 98, 97, 97] := ⟨fun _ => ⟨_, rfl⟩, fun _ => ⟨_, rfl⟩, fun _ _ _ _ _ _ _ _ _ _ _ _ _ _ => ⟨_, rfl⟩, fun _ _ _ _ _ _ _ _ _ _ _ _ _ _ _ => rfl⟩
theorem pp_0_28 : PP [] [98, 98, 97, 98] := ⟨fun _ => ⟨_, rfl⟩, fun _ => ⟨_, rfl⟩, fun _ _ _ _ _ _ _ _ _ _ _ _ _ _ => ⟨_, rfl⟩, fun _ _ _ _ _ _ _ _ _ _ _ _ _ _ _ => rfl⟩
theorem pp_0_29 : PP [] [98, 98, 98, 97] := ⟨fun _ => ⟨_, rfl⟩, fun _ => ⟨_, rfl⟩, fun _ _ _ _ _ _ _ _ _ _ _ _ _ _ => ⟨_, rfl⟩, fun _ _ _ _ _ _ _ _ _ _ _ _ _ _ _ => rfl⟩
theorem pp_0_30 : PP [] [98, 98, 98, 98] := ⟨fun _ => ⟨_, rfl⟩, fun _ => ⟨_, rfl⟩, fun _ _ _ _ _ _ _ _ _ _ _ _ _ _ => ⟨_, rfl⟩, fun _ _ _ _ _ _ _ _ _ _ _ _ _ _ _ => rfl⟩
theorem pp_1_0 : PP [97] [] := ⟨fun _ => ⟨_, rfl⟩, fun _ => ⟨_, rfl⟩, fun _ _ _ _ _ _ _ _ _ _ _ _ _ _ => ⟨_, rfl⟩, fun _ _ _ _ _ _ _ _ _ _ _ _ _ _ _ => rfl⟩
theorem pp_1_1 : PP [97] [97] := ⟨fun _ => ⟨_, rfl⟩, fun _ => ⟨_, rfl⟩, fun _ _ _ _ _ _ _ _ _ _ _ _ _ _ => ⟨_, rfl⟩, fun _ _ _ _ _ _ _ _ _ _ _ _ _ _ _ => rfl⟩
theorem pp_1_2 : PP [97] [98] := ⟨fun _ => ⟨_, rfl⟩, fun _ => ⟨_, rfl⟩, fun _ _ _ _ _ _ _ _ _ _ _ _ _ _ => ⟨_, rfl⟩, fun _ _ _ _ _ _ _ _ _ _ _ _ _ _ _ => rfl⟩
theorem pp_1_3 : PP [97] [97, 97] := ⟨fun _ => ⟨_, rfl⟩, fun _ => ⟨_, rfl⟩, fun _ _ _ _ _ _ _ _ _ _ _ _ _ _ => ⟨_, rfl⟩, fun _ _ _ _ _ _ _ _ _ _ _ _ _ _ _ => rfl⟩
theorem pp_1_4 : PP [97] [97, 98] := ⟨fun _ => ⟨_, rfl⟩, fun _ => ⟨_, rfl⟩, fun _ _ _ _ _ _ _ _ _ _ _ _ _ _ => ⟨_, rfl⟩, fun _ _ _ _ _ _ _ _ _ _ _ _ _ _ _ => rfl⟩
theorem pp_1_5 : PP [97] [98, 97] := ⟨fun _ => ⟨_, rfl⟩, fun _ => ⟨_, rfl⟩, fun _ _ _ _ _ _ _ _ _ _ _ _ _ _ => ⟨_, rfl⟩, fun _ _ _ _ _ _ _ _ _ _ _ _ _ _ _ => rfl⟩
theorem pp_1_6 : PP [97] [98, 98] := ⟨fun _ => ⟨_, rfl⟩, fun _ => ⟨_, rfl⟩, fun _ _ _ _ _ _ _ _ _ _ _ _ _ _ => ⟨_, rfl⟩, fun _ _ _ _ _ _ _ _ _ _ _ _ _ _ _ => rfl⟩
theorem pp_1_7 : PP [97] [97, 97, 97] := ⟨fun _ => ⟨_, rfl⟩, fun _ => ⟨_, rfl⟩, fun _ _ _ _ _ _ _ _ _ _ _ _ _ _ => ⟨_, rfl⟩, fun _ _ _ _ _ _ _ _ _ _ _ _ _ _ _ => rfl⟩
theorem pp_1_8 : PP [97] [97, 97, 98] := ⟨fun _ => ⟨_, rfl⟩, fun _ => ⟨_, rfl⟩, fun _ _ _ _ _ _ _ _ _ _ _ _ _ _ => ⟨_, rfl⟩, fun _ _ _ _ _ _ _ _ _ _ _ _ _ _ _ => rfl⟩
theorem pp_1_9 : PP [97] [97, 98, 97] := ⟨fun _ => ⟨_, rfl⟩, fun _ => ⟨_, rfl⟩, fun _ _ _ _ _ _ _ _ _ _ _ _ _ _ => ⟨_, rfl⟩, fun _ _ _ _ _ _ _ _ _ _ _ _ _ _ _ => rfl⟩
theorem pp_1_10 : PP [97] [97, 98, 98] := ⟨fun _ => ⟨_, rfl⟩, fun _ => ⟨_, rfl⟩, fun _ _ _ _ _ _ _ _ _ _ _ _ _ _ => ⟨_, rfl⟩, fun _ _ _ _ _ _ _ _ _ _ _ _ _ _ _ => rfl⟩
theorem pp_1_11 : PP [97] [98, 97, 97] := ⟨fun _ => ⟨_, rfl⟩, fun _ => ⟨_, rfl⟩, fun _ _ _ _ _ _ _ _ _ _ _ _ _ _ => ⟨_, rfl⟩, fun _ _ _ _ _ _ _ _ _ _ _ _ _ _ _ => rfl⟩
theorem pp_1_12 : PP [97] [98, 97, 98] := ⟨fun _ => ⟨_, rfl⟩, fun _ => ⟨_, rfl⟩, fun _ _ _ _ _ _ _ _ _ _ _ _ _ _ => ⟨_, rfl⟩, fun _ _ _ _ _ _ _ _ _ _ _ _ _ _ _ => rfl⟩
theorem pp_1_13 : PP [97] [98, 98, 97] := ⟨fun _ => ⟨_, rfl⟩, fun _ => ⟨_, rfl⟩, fun _ _ _ _ _ _ _ _ _ _ _ _ _ _ => ⟨_, rfl⟩, fun _ _ _ _ _ _ _ _ _ _ _ _ _ _ _ => rfl⟩
theorem pp_1_14 : PP [97] [98, 98, 98] := ⟨fun _ => ⟨_, rfl⟩, fun _ => ⟨_, rfl⟩, fun _ _ _ _ _ _ _ _ _ _ _ _ _ _ => ⟨_, rfl⟩, fun _ _ _ _ _ _ _ _ _ _ _ _ _ _ _ => rfl⟩
theorem pp_1_15 : PP [97] [97, 97, 97, 97] := ⟨fun _ => ⟨_, rfl⟩, fun _ => ⟨_, rfl⟩, fun _ _ _ _ _ _ _ _ _ _ _ _ _ _ => ⟨_, rfl⟩, fun _ _ _ _ _ _ _ _ _ _ _ _ _ _ _ => rfl⟩
theorem pp_1_16 : PP [97] [97, 97, 97, 98] := ⟨fun _ => ⟨_, rfl⟩, fun _ => ⟨_, rfl⟩, fun _ _ _ _ _ _ _ _ _ _ _ _ _ _ => ⟨_, rfl⟩, fun _ _ _ _ _ _ _ _ _ _ _ _ _ _ _ => rfl⟩
theorem pp_1_17 : PP [97] [97, 97, 98, 97] := ⟨fun _ => ⟨_, rfl⟩, fun _ => ⟨_, rfl⟩, fun _ _ _ _ _ _ _ _ _ _ _ _ _ _ => ⟨_, rfl⟩, fun _ _ _ _ _ _ _ _ _ _ _ _ _ _ _ => rfl⟩
theorem pp_1_18 : PP [97] [97, 97, 98, 98] := ⟨fun _ => ⟨_, rfl⟩, fun _ => ⟨_, rfl⟩, fun _ _ _ _ _ _ _ _ _ _ _ _ _ _ => ⟨_, rfl⟩, fun _ _ _ _ _ _ _ _ _ _ _ _ _ _ _ => rfl⟩
theorem pp_1_19 : PP [97] [97, 98, 97, 97] := ⟨fun _ => ⟨_, rfl⟩, fun _ => ⟨_, rfl⟩, fun _ _ _ _ _ _ _ _ _ _ _ _ _ _ => ⟨_, rfl⟩, fun _ _ _ _ _ _ _ _ _ _ _ _ _ _ _ => rfl⟩
theorem pp_1_20 : PP [97] [97, 98, 97, 98] := ⟨fun _ => ⟨_, rfl⟩, fun _ => ⟨_, rfl⟩, fun _ _ _ _ _ _ _ _ _ _ _ _ _ _ => ⟨_, rfl⟩, fun _ _ _ _ _ _ _ _ _ _ _ _ _ _ _ => rfl⟩
theorem pp_1_21 : PP [97] [97, 98, 98, 97] := ⟨fun _ => ⟨_, rfl⟩, fun _ => ⟨_, rfl⟩, fun _ _ _ _ _ _ _ _ _ _ _ _ _ _ => ⟨_, rfl⟩, fun _ _ _ _ _ _ _ _ _ _ _ _ _ _ _ => rfl⟩
theorem pp_1_22 : PP [97] [97, 98, 98, 98] := ⟨fun _ => ⟨_, rfl⟩, fun _ => ⟨_, rfl⟩, fun _ _ _ _ _ _ _ _ _ _ _ _ _ _ => ⟨_, rfl⟩, fun _ _ _ _ _ _ _ _ _ _ _ _ _ _ _ => rfl⟩
theorem pp_1_23 : PP [97] [98, 97, 97, 97] := ⟨fun _ => ⟨_, rfl⟩, fun _ => ⟨_, rfl⟩, fun _ _ _ _ _ _ _ _ _ _ _ _ _ _ => ⟨_, rfl⟩, fun _ _ _ _ _ _ _ _ _ _ _ _ _ _ _ => rfl⟩
theorem pp_1_24 : PP [97] [98, 97, 97, 98] := ⟨fun _ => ⟨_, rfl⟩, fun _ => ⟨_, rfl⟩, fun _ _ _ _ _ _ _ _ _ _ _ _ _ _ => ⟨_, rfl⟩, fun _ _ _ _ _ _ _ _ _ _ _ _ _ _ _ => rfl⟩
theorem pp_1_25 : PP [97] [98, 97, 98, 97] := ⟨fun _ => ⟨_, rfl⟩, fun _ => ⟨_, rfl⟩, fun _ _ _ _ _ _ _ _ _ _ _ _ _ _ => ⟨_, rfl⟩, fun _ _ _ _ _ _ _ _ _ _ _ _ _ _ _ => rfl⟩
theorem pp_1_26 : PP [97] [98, 97, 98, 98] := ⟨fun _ => ⟨_, rfl⟩, fun _ => ⟨_, rfl⟩, fun _ _ _ _ _ _ _ _ _ _ _ _ _ _ => ⟨_, rfl⟩, fun _ _ _ _ _ _ _ _ _ _ _ _ _ _ _ => rfl⟩
theorem pp_1_27 : PP [97] [98, 98, 97, 97] := ⟨fun _ => ⟨_, rfl⟩, fun _ => ⟨_, rfl⟩, fun _ _ _ _ _ _ _ _ _ _ _ _ _ _ => ⟨_, rfl⟩, fun _ _ _ _ _ _ _ _ _ _ _ _ _ _ _ => rfl⟩
theorem pp_1_28 : PP [97] [98, 98, 97, 98] := ⟨fun _ => ⟨_, rfl⟩, fun _ => ⟨_, rfl⟩, fun _ _ _ _ _ _ _ _ _ _ _ _ _ _ => ⟨_, rfl⟩, fun _ _ _ _ _ _ _ _ _ _ _ _ _ _ _ => rfl⟩
theorem pp_1_29 : PP [97] [98, 98, 98, 97] := ⟨fun _ => ⟨_, rfl⟩, fun _ => ⟨_, rfl⟩, fun _ _ _ _ _ _ _ _ _ _ _ _ _ _ => ⟨_, rfl⟩, fun _ _ _ _ _ _ _ _ _ _ _ _ _ _ _ => rfl⟩
theorem pp_1_30 : PP [97] [98, 98, 98, 98] := ⟨fun _ => ⟨_, rfl⟩, fun _ => ⟨_, rfl⟩, fun _ _ _ _ _ _ _ _ _ _ _ _ _ _ => ⟨_, rfl⟩, fun _ _ _ _ _ _ _ _ _ _ _ _ _ _ _ => rfl⟩
theorem pp_2_0 : PP [98] [] := ⟨fun _ => ⟨_, rfl⟩, fun _ => ⟨_, rfl⟩, fun _ _ _ _ _ _ _ _ _ _ _ _ _ _ => ⟨_, rfl⟩, fun _ _ _ _ _ _ _ _ _ _ _ _ _ _ _ => rfl⟩
theorem pp_2_1 : PP [98] [97] := ⟨fun _ => ⟨_, rfl⟩, fun _ => ⟨_, rfl⟩, fun _ _ _ _ _ _ _ _ _ _ _ _ _ _ => ⟨_, rfl⟩, fun _ _ _ _ _ _ _ _ _ _ _ _ _ _ _ => rfl⟩
theorem pp_2_2 : PP [98] [98] := ⟨fun _ => ⟨_, rfl⟩, fun _ => ⟨_, rfl⟩, fun _ _ _ _ _ _ _ _ _ _ _ _ _ _ => ⟨_, rfl⟩, fun _ _ _ _ _ _ _ _ _ _ _ _ _ _ _ => rfl⟩
theorem pp_2_3 : PP [98] [97, 97] := ⟨fun _ => ⟨_, rfl⟩, fun _ => ⟨_, rfl⟩, fun _ _ _ _ _ _ _ _ _ _ _ _ _ _ => ⟨_, rfl⟩, fun _ _ _ _ _ _ _ _ _ _ _ _ _ _ _ => rfl⟩
theorem pp_2_4 : PP [98] [97, 98] := ⟨fun _ => ⟨_, rfl⟩, fun _ => ⟨_, rfl⟩, fun _ _ _ _ _ _ _ _ _ _ _ _ _ _ => ⟨_, rfl⟩, fun _ _ _ _ _ _ _ _ _ _ _ _ _ _ _ => rfl⟩
theorem pp_2_5 : PP [98] [98, 97] := ⟨fun _ => ⟨_, rfl⟩, fun _ => ⟨_, rfl⟩, fun _ _ _ _ _ _ _ _ _ _ _ _ _ _ => ⟨_, rfl⟩, fun _ _ _ _ _ _ _ _ _ _ _ _ _ _ _ => rfl⟩
theorem pp_2_6 : PP [98] [98, 98] := ⟨fun _ => ⟨_, rfl⟩, fun _ => ⟨_, rfl⟩, fun _ _ _ _ _ _ _ _ _ _ _ _ _ _ => ⟨_, rfl⟩, fun _ _ _ _ _ _ _ _ _ _ _ _ _ _ _ => rfl⟩
theorem pp_2_7 : PP [98] [97, 97, 97] := ⟨fun _ => ⟨_, rfl⟩, fun _ => ⟨_, rfl⟩, fun _ _ _ _ _ _ _ _ _ _ _ _ _ _ => ⟨_, rfl⟩, fun _ _ _ _ _ _ _ _ _ _ _ _ _ _ _ => rfl⟩
theorem pp_2_8 : PP [98] [97, 97, 98] := ⟨fun _ => ⟨_, rfl⟩, fun _ => ⟨_, rfl⟩, fun _ _ _ _ _ _ _ _ _ _ _ _ _ _ => ⟨_, rfl⟩, fun _ _ _ _ _ _ _ _ _ _ _ _ _ _ _ => rfl⟩
theorem pp_2_9 : PP [98] [97, 98, 97] := ⟨fun _ => ⟨_, rfl⟩, fun _ => ⟨_, rfl⟩, fun _ _ _ _ _ _ _ _ _ _ _ _ _ _ => ⟨_, rfl⟩, fun _ _ _ _ _ _ _ _ _ _ _ _ _ _ _ => rfl⟩
theorem pp_2_10 : PP [98] [97, 98, 98] := ⟨fun _ => ⟨_, rfl⟩, fun _ => ⟨_, rfl⟩, fun _ _ _ _ _ _ _ _ _ _ _ _ _ _ => ⟨_, rfl⟩, fun _ _ _ _ _ _ _ _ _ _ _ _ _ _ _ => rfl⟩
theorem pp_2_11 : PP [98] [98, 97, 97] := ⟨fun _ => ⟨_, rfl⟩, fun _ => ⟨_, rfl⟩, fun _ _ _ _ _ _ _ _ _ _ _ _ _ _ => ⟨_, rfl⟩, fun _ _ _ _ _ _ _ _ _ _ _ _ _ _ _ => rfl⟩
theorem pp_2_12 : PP [98] [98, 97, 98] := ⟨fun _ => ⟨_, rfl⟩, fun _ => ⟨_, rfl⟩, fun _ _ _ _ _ _ _ _ _ _ _ _ _ _ => ⟨_, rfl⟩, fun _ _ _ _ _ _ _ _ _ _ _ _ _ _ _ => rfl⟩
theorem pp_2_13 : PP [98] [98, 98, 97] := ⟨fun _ => ⟨_, rfl⟩, fun _ => ⟨_, rfl⟩, fun _ _ _ _ _ _ _ _ _ _ _ _ _ _ => ⟨_, rfl⟩, fun _ _ _ _ _ _ _ _ _ _ _ _ _ _ _ => rfl⟩
theorem pp_2_14 : PP [98] [98, 98, 98] := ⟨fun _ => ⟨_, rfl⟩, fun _ => ⟨_, rfl⟩, fun _ _ _ _ _ _ _ _ _ _ _ _ _ _ => ⟨_, rfl⟩, fun _ _ _ _ _ _ _ _ _ _ _ _ _ _ _ => rfl⟩
theorem pp_2_15 : PP [98] [97, 97, 97, 97] := ⟨fun _ => ⟨_, rfl⟩, fun _ => ⟨_, rfl⟩, fun _ _ _ _ _ _ _ _ _ _ _ _ _ _ => ⟨_, rfl⟩, fun _ _ _ _ _ _ _ _ _ _ _ _ _ _ _ => rfl⟩
theorem pp_2_16 : PP [98] [97, 97, 97, 98] := ⟨fun _ => ⟨_, rfl⟩, fun _ => ⟨_, rfl⟩, fun _ _ _ _ _ _ _ _ _ _ _ _ _ _ => ⟨_, rfl⟩, fun _ _ _ _ _ _ _ _ _ _ _ _ _ _ _ => rfl⟩
theorem pp_2_17 : PP [98] [97, 97, 98, 97] := ⟨fun _ => ⟨_, rfl⟩, fun _ => ⟨_, rfl⟩, fun _ _ _ _ _ _ _ _ _ _ _ _ _ _ => ⟨_, rfl⟩, fun _ _ _ _ _ _ _ _ _ _ _ _ _ _ _ => rfl⟩
theorem pp_2_18 : PP [98] [97, 97, 98, 98] := ⟨fun _ => ⟨_, rfl⟩, fun _ => ⟨_, rfl⟩, fun _ _ _ _ _ _ _ _ _ _ _ _ _ _ => ⟨_, rfl⟩, fun _ _ _ _ _ _ _ _ _ _ _ _ _ _ _ => rfl⟩
theorem pp_2_19 : PP [98] [97, 98, 97, 97] := ⟨fun _ => ⟨_, rfl⟩, fun _ => ⟨_, rfl⟩, fun _ _ _ _ _ _ _ _ _ _ _ _ _ _ => ⟨_, rfl⟩, fun _ _ _ _ _ _ _ _ _ _ _ _ _ _ _ => rfl⟩
theorem pp_2_20 : PP [98] [97, 98, 97, 98] := ⟨fun _ => ⟨_, rfl⟩, fun _ => ⟨_, rfl⟩, fun _ _ _ _ _ _ _ _ _ _ _ _ _ _ => ⟨_, rfl⟩, fun _ _ _ _ _ _ _ _ _ _ _ _ _ _ _ => rfl⟩
theorem pp_2_21 : PP [98] [97, 98, 98, 97] := ⟨fun _ => ⟨_, rfl⟩, fun _ => ⟨_, rfl⟩, fun _ _ _ _ _ _ _ _ _ _ _ _ _ _ => ⟨_, rfl⟩, fun _ _ _ _ _ _ _ _ _ _ _ _ _ _ _ => rfl⟩
theorem pp_2_22 : PP [98] [97, 98, 98, 98] := ⟨fun _ => ⟨_, rfl⟩, fun _ => ⟨_, rfl⟩, fun _ _ _ _ _ _ _ _ _ _ _ _ _ _ => ⟨_, rfl⟩, fun _ _ _ _ _ _ _ _ _ _ _ _ _ _ _ => rfl⟩
theorem pp_2_23 : PP [98] [98, 97, 97, 97] := ⟨fun _ => ⟨_, rfl⟩, fun _ => ⟨_, rfl⟩, fun _ _ _ _ _ _ _ _ _ _ _ _ _ _ => ⟨_, rfl⟩, fun _ _ _ _ _ _ _ _ _ _ _ _ _ _ _ => rfl⟩
theorem pp_2_24 : PP [98] [98, 97, 97, 98] := ⟨fun _ => ⟨_, rfl⟩, fun _ => ⟨_, rfl⟩, fun _ _ _ _ _ _ _ _ _ _ _ _ _ _ => ⟨_, rfl⟩, fun _ _ _ _ _ _ _ _ _ _ _ _ _ _ _ => rfl⟩
theorem pp_2_25 : PP [98] [98, 97, 98, 97] := ⟨fun _ => ⟨_, rfl⟩, fun _ => ⟨_, rfl⟩, fun _ _ _ _ _ _ _ _ _ _ _ _ _ _ => ⟨_, rfl⟩, fun _ _ _ _ _ _ _ _ _ _ _ _ _ _ _ => rfl⟩
theorem pp_2_26 : PP [98] [98, 97, 98, 98] := ⟨fun _ => ⟨_, rfl⟩, fun _ => ⟨_, rfl⟩, fun _ _ _ _ _ _ _ _ _ _ _ _ _ _ => ⟨_, rfl⟩, fun _ _ _ _ _ _ _ _ _ _ _ _ _ _ _ => rfl⟩
theorem pp_2_27 : PP [98] [98, 98, 97, 97] := ⟨fun _ => ⟨_, rfl⟩, fun _ => ⟨_, rfl⟩, fun _ _ _ _ _ _ _ _ _ _ _ _ _ _ => ⟨_, rfl⟩, fun _ _ _ _ _ _ _ _ _ _ _ _ _ _ _ => rfl⟩
theorem pp_2_28 : PP [98] [98, 98, 97, 98] := ⟨fun _ => ⟨_, rfl⟩, fun _ => ⟨_, rfl⟩, fun _ _ _ _ _ _ _ _ _ _ _ _ _ _ => ⟨_, rfl⟩, fun _ _ _ _ _ _ _ _ _ _ _ _ _ _ _ => rfl⟩
theorem pp_2_29 : PP [98] [98, 98, 98, 97] := ⟨fun _ => ⟨_, rfl⟩, fun _ => ⟨_, rfl⟩, fun _ _ _ _ _ _ _ _ _ _ _ _ _ _ => ⟨_, rfl⟩, fun _ _ _ _ _ _ _ _ _ _ _ _ _ _ _ => rfl⟩
theorem pp_2_30 : PP [98] [98, 98, 98, 98] := ⟨fun _ => ⟨_, rfl⟩, fun _ => ⟨_, rfl⟩, fun _ _ _ _ _ _ _ _ _ _ _ _ _ _ => ⟨_, rfl⟩, fun _ _ _ _ _ _ _ _ _ _ _ _ _ _ _ => rfl⟩
theorem pp_3_0 : PP [97, 97] [] := ⟨fun _ => ⟨_, rfl⟩, fun _ => ⟨_, rfl⟩, fun _ _ _ _ _ _ _ _ _ _ _ _ _ _ => ⟨_, rfl⟩, fun _ _ _ _ _ _ _ _ _ _ _ _ _ _ _ => rfl⟩
theorem pp_3_1 : PP [97, 97] [97] := ⟨fun _ => ⟨_, rfl⟩, fun _ => ⟨_, rfl⟩, fun _ _ _ _ _ _ _ _ _ _ _ _ _ _ => ⟨_, rfl⟩, fun _ _ _ _ _ _ _ _ _ _ _ _ _ _ _ => rfl⟩
theorem pp_3_2 : PP [97, 97] [98] := ⟨fun _ => ⟨_, rfl⟩, fun _ => ⟨_, rfl⟩, fun _ _ _ _ _ _ _ _ _ _ _ _ _ _ => ⟨_, rfl⟩, fun _ _ _ _ _ _ _ _ _ _ _ _ _ _ _ => rfl⟩
theorem pp_3_3 : PP [97, 97] [97, 97] := ⟨fun _ => ⟨_, rfl⟩, fun _ => ⟨_, rfl⟩, fun _ _ _ _ _ _ _ _ _ _ _ _ _ _ => ⟨_, rfl⟩, fun _ _ _ _ _ _ _ _ _ _ _ _ _ _ _ => rfl⟩
theorem pp_3_4 : PP [97, 97] [97, 98] := ⟨fun _ => ⟨_, rfl⟩, fun _ => ⟨_, rfl⟩, fun _ _ _ _ _ _ _ _ _ _ _ _ _ _ => ⟨_, rfl⟩, fun _ _ _ _ _ _ _ _ _ _ _ _ _ _ _ => rfl⟩
theorem pp_3_5 : PP [97, 97] [98, 97] := ⟨fun _ => ⟨_, rfl⟩, fun _ => ⟨_, rfl⟩, fun _ _ _ _ _ _ _ _ _ _ _ _ _ _ => ⟨_, rfl⟩, fun _ _ _ _ _ _ _ _ _ _ _ _ _ _ _ => rfl⟩
theorem pp_3_6 : PP [97, 97] [98, 98] := ⟨fun _ => ⟨_, rfl⟩, fun _ => ⟨_, rfl⟩, fun _ _ _ _ _ _ _ _ _ _ _ _ _ _ => ⟨_, rfl⟩, fun _ _ _ _ _ _ _ _ _ _ _ _ _ _ _ => rfl⟩
theorem pp_3_7 : PP [97, 97] [97, 97, 97] := ⟨fun _ => ⟨_, rfl⟩, fun _ => ⟨_, rfl⟩, fun _ _ _ _ _ _ _ _ _ _ _ _ _ _ => ⟨_, rfl⟩, fun _ _ _ _ _ _ _ _ _ _ _ _ _ _ _ => rfl⟩
theorem pp_3_8 : PP [97, 97] [97, 97, 98] := ⟨fun _ => ⟨_, rfl⟩, fun _ => ⟨_, rfl⟩, fun _ _ _ _ _ _ _ _ _ _ _ _ _ _ => ⟨_, rfl⟩, fun _ _ _ _ _ _ _ _ _ _ _ _ _ _ _ => rfl⟩
theorem pp_3_9 : PP [97, 97] [97, 98, 97] := ⟨fun _ => ⟨_, rfl⟩, fun _ => ⟨_, rfl⟩, fun _ _ _ _ _ _ _ _ _ _ _ _ _ _ => ⟨_, rfl⟩, fun _ _ _ _ _ _ _ _ _ _ _ _ _ _ _ => rfl⟩
theorem pp_3_10 : PP [97, 97] [97, 98, 98] := ⟨fun _ => ⟨_, rfl⟩, fun _ => ⟨_, rfl⟩, fun _ _ _ _ _ _ _ _ _ _ _ _ _ _ => ⟨_, rfl⟩, fun _ _ _ _ _ _ _ _ _ _ _ _ _ _ _ => rfl⟩
theorem pp_3_11 : PP [97, 97] [98, 97, 97] := ⟨fun _ => ⟨_, rfl⟩, fun _ => ⟨_, rfl⟩, fun _ _ _ _ _ _ _ _ _ _ _ _ _ _ => ⟨_, rfl⟩, fun _ _ _ _ _ _ _ _ _ _ _ _ _ _ _ => rfl⟩
theorem pp_3_12 : PP [97, 97] [98, 97, 98] := ⟨fun _ => ⟨_, rfl⟩, fun _ => ⟨_, rfl⟩, fun _ _ _ _ _ _ _ _ _ _ _ _ _ _ => ⟨_, rfl⟩, fun _ _ _ _ _ _ _ _ _ _ _ _ _ _ _ => rfl⟩
theorem pp_3_13 : PP [97, 97] [98, 98, 97] := ⟨fun _ => ⟨_, rfl⟩, fun _ => ⟨_, rfl⟩, fun _ _ _ _ _ _ _ _ _ _ _ _ _ _ => ⟨_, rfl⟩, fun _ _ _ _ _ _ _ _ _ _ _ _ _ _ _ => rfl⟩
theorem pp_3_14 : PP [97, 97] [98, 98, 98] := ⟨fun _ => ⟨_, rfl⟩, fun _ => ⟨_, rfl⟩, fun _ _ _ _ _ _ _ _ _ _ _ _ _ _ => ⟨_, rfl⟩, fun _ _ _ _ _ _ _ _ _ _ _ _ _ _ _ => rfl⟩
theorem pp_3_15 : PP [97, 97] [97, 97, 97, 97] := ⟨fun _ => ⟨_, rfl⟩, fun _ => ⟨_, rfl⟩, fun _ _ _ _ _ _ _ _ _ _ _ _ _ _ => ⟨_, rfl⟩, fun _ _ _ _ _ _ _ _ _ _ _ _ _ _ _ => rfl⟩
theorem pp_3_16 : PP [97, 97] [97, 97, 97, 98] := ⟨fun _ => ⟨_, rfl⟩, fun _ => ⟨_, rfl⟩, fun _ _ _ _ _ _ _ _ _ _ _ _ _ _ => ⟨_, rfl⟩, fun _ _ _ _ _ _ _ _ _ _ _ _ _ _ _ => rfl⟩
theorem pp_3_17 : PP [97, 97] [97, 97, 98, 97] := ⟨fun _ => ⟨_, rfl⟩, fun _ => ⟨_, rfl⟩, fun _ _ _ _ _ _ _ _ _ _ _ _ _ _ => ⟨_, rfl⟩, fun _ _ _ _ _ _ _ _ _ _ _ _ _ _ _ => rfl⟩
theorem pp_3_18 : PP [97, 97] [97, 97, 98, 98] := ⟨fun _ => ⟨_, rfl⟩, fun _ => ⟨_, rfl⟩, fun _ _ _ _ _ _ _ _ _ _ _ _ _ _ => ⟨_, rfl⟩, fun _ _ _ _ _ _ _ _ _ _ _ _ _ _ _ => rfl⟩
theorem pp_3_19 : PP [97, 97] [97, 98, 97, 97] := ⟨fun _ => ⟨_, rfl⟩, fun _ => ⟨_, rfl⟩, fun _ _ _ _ _ _ _ _ _ _ _ _ _ _ => ⟨_, rfl⟩, fun _ _ _ _ _ _ _ _ _ _ _ _ _ _ _ => rfl⟩
theorem pp_3_20 : PP [97, 97] [97, 98, 97, 98] := ⟨fun _ => ⟨_, rfl⟩, fun _ => ⟨_, rfl⟩, fun _ _ _ _ _ _ _ _ _ _ _ _ _ _ => ⟨_, rfl⟩, fun _ _ _ _ _ _ _ _ _ _ _ _ _ _ _ => rfl⟩
theorem pp_3_21 : PP [97, 97] [97, 98, 98, 97] := ⟨fun _ => ⟨_, rfl⟩, fun _ => ⟨_, rfl⟩, fun _ _ _ _ _ _ _ _ _ _ _ _ _ _ => ⟨_, rfl⟩, fun _ _ _ _ _ _ _ _ _ _ _ _ _ _ _ => rfl⟩
theorem pp_3_22 : PP [97, 97] [97, 98, 98, 98] := ⟨fun _ => ⟨_, rfl⟩, fun _ => ⟨_, rfl⟩, fun _ _ _ _ _ _ _ _ _ _ _ _ _ _ => ⟨_, rfl⟩, fun _ _ _ _ _ _ _ _ _ _ _ _ _ _ _ => rfl⟩
theorem pp_3_23 : PP [97, 97] [98, 97, 97, 97] := ⟨fun _ => ⟨_, rfl⟩, fun _ => ⟨_, rfl⟩, fun _ _ _ _ _ _ _ _ _ _ _ _ _ _ => ⟨_, rfl⟩, fun _ _ _ _ _ _ _ _ _ _ _ _ _ _ _ => rfl⟩
theorem pp_3_24 : PP [97, 97] [98, 97, 97, 98] := ⟨fun _ => ⟨_, rfl⟩, fun _ => ⟨_, rfl⟩, fun _ _ _ _ _ _ _ _ _ _ _ _ _ _ => ⟨_, rfl⟩, fun _ _ _ _ _ _ _ _ _ _ _ _ _ _ _ => rfl⟩
theorem pp_3_25 : PP [97, 97] [98, 97, 98, 97] := ⟨fun _ => ⟨_, rfl⟩, fun _ => ⟨_, rfl⟩, fun _ _ _ _ _ _ _ _ _ _ _ _ _ _ => ⟨_, rfl⟩, fun _ _ _ _ _ _ _ _ _ _ _ _ _ _ _ => rfl⟩
theorem pp_3_26 : PP [97, 97] [98, 97, 98, 98] := ⟨fun _ => ⟨_, rfl⟩, fun _ => ⟨_, rfl⟩, fun _ _ _ _ _ _ _ _ _ _ _ _ _ _ => ⟨_, rfl⟩, fun _ _ _ _ _ _ _ _ _ _ _ _ _ _ _ => rfl⟩
theorem pp_3_27 : PP [97, 97] [98, 98, 97, 97] := ⟨fun _ => ⟨_, rfl⟩, fun _ => ⟨_, rfl⟩, fun _ _ _ _ _ _ _ _ _ _ _ _ _ _ => ⟨_, rfl⟩, fun _ _ _ _ _ _ _ _ _ _ _ _ _ _ _ => rfl⟩
theorem pp_3_28 : PP [97, 97] [98, 98, 97, 98] := ⟨fun _ => ⟨_, rfl⟩, fun _ => ⟨_, rfl⟩, fun _ _ _ _ _ _ _ _ _ _ _ _ _ _ => ⟨_, rfl⟩, fun _ _ _ _ _ _ _ _ _ _ _ _ _ _ _ => rfl⟩
theorem pp_3_29 : PP [97, 97] [98, 98, 98, 97] := ⟨fun _ => ⟨_, rfl⟩, fun _ => ⟨_, rfl⟩, fun _ _ _ _ _ _ _ _ _ _ _ _ _ _ => ⟨_, rfl⟩, fun _ _ _ _ _ _ _ _ _ _ _ _ _ _ _ => rfl⟩
theorem pp_3_30 : PP [97, 97] [98, 98, 98, 98] := ⟨fun _ => ⟨_, rfl⟩, fun _ => ⟨_, rfl⟩, fun _ _ _ _ _ _ _ _ _ _ _ _ _ _ => ⟨_, rfl⟩, fun _ _ _ _ _ _ _ _ _ _ _ _ _ _ _ => rfl⟩
theorem pp_4_0 : PP [97, 98] [] := ⟨fun _ => ⟨_, rfl⟩, fun _ => ⟨_, rfl⟩, fun _ _ _ _ _ _ _ _ _ _ _ _ _ _ => ⟨_, rfl⟩, fun _ _ _ _ _ _ _ _ _ _ _ _ _ _ _ => rfl⟩
theorem pp_4_1 : PP [97, 98] [97] := ⟨fun _ => ⟨_, rfl⟩, fun _ => ⟨_, rfl⟩, fun _ _ _ _ _ _ _ _ _ _ _ _ _ _ => ⟨_, rfl⟩, fun _ _ _ _ _ _ _ _ _ _ _ _ _ _ _ => rfl⟩
theorem pp_4_2 : PP [97, 98] [98] := ⟨fun _ => ⟨_, rfl⟩, fun _ => ⟨_, rfl⟩, fun _ _ _ _ _ _ _ _ _ _ _ _ _ _ => ⟨_, rfl⟩, fun _ _ _ _ _ _ _ _ _ _ _ _ _ _ _ => rfl⟩
theorem pp_4_3 : PP [97, 98] [97, 97] := ⟨fun _ => ⟨_, rfl⟩, fun _ => ⟨_, rfl⟩, fun _ _ _ _ _ _ _ _ _ _ _ _ _ _ => ⟨_, rfl⟩, fun _ _ _ _ _ _ _ _ _ _ _ _ _ _ _ => rfl⟩
theorem pp_4_4 : PP [97, 98] [97, 98] := ⟨fun _ => ⟨_, rfl⟩, fun _ => ⟨_, rfl⟩, fun _ _ _ _ _ _ _ _ _ _ _ _ _ _ => ⟨_, rfl⟩, fun _ _ _ _ _ _ _ _ _ _ _ _ _ _ _ => rfl⟩
theorem pp_4_5 : PP [97, 98] [98, 97] := ⟨fun _ => ⟨_, rfl⟩, fun _ => ⟨_, rfl⟩, fun _ _ _ _ _ _ _ _ _ _ _ _ _ _ => ⟨_, rfl⟩, fun _ _ _ _ _ _ _ _ _ _ _ _ _ _ _ => rfl⟩
theorem pp_4_6 : PP [97, 98] [98, 98] := ⟨fun _ => ⟨_, rfl⟩, fun _ => ⟨_, rfl⟩, fun _ _ _ _ _ _ _ _ _ _ _ _ _ _ => ⟨_, rfl⟩, fun _ _ _ _ _ _ _ _ _ _ _ _ _ _ _ => rfl⟩
theorem pp_4_7 : PP [97, 98] [97, 97, 97] := ⟨fun _ => ⟨_, rfl⟩, fun _ => ⟨_, rfl⟩, fun _ _ _ _ _ _ _ _ _ _ _ _ _ _ => ⟨_, rfl⟩, fun _ _ _ _ _ _ _ _ _ _ _ _ _ _ _ => rfl⟩
theorem pp_4_8 : PP [97, 98] [97, 97, 98] := ⟨fun _ => ⟨_, rfl⟩, fun _ => ⟨_, rfl⟩, fun _ _ _ _ _ _ _ _ _ _ _ _ _ _ => ⟨_, rfl⟩, fun _ _ _ _ _ _ _ _ _ _ _ _ _ _ _ => rfl⟩
theorem pp_4_9 : PP [97, 98] [97, 98, 97] := ⟨fun _ => ⟨_, rfl⟩, fun _ => ⟨_, rfl⟩, fun _ _ _ _ _ _ _ _ _ _ _ _ _ _ => ⟨_, rfl⟩, fun _ _ _ _ _ _ _ _ _ _ _ _ _ _ _ => rfl⟩
theorem pp_4_10 : PP [97, 98] [97, 98, 98] := ⟨fun _ => ⟨_, rfl⟩, fun _ => ⟨_, rfl⟩, fun _ _ _ _ _ _ _ _ _ _ _ _ _ _ => ⟨_, rfl⟩, fun _ _ _ _ _ _ _ _ _ _ _ _ _ _ _ => rfl⟩
theorem pp_4_11 : PP [97, 98] [98, 97, 97] := ⟨fun _ => ⟨_, rfl⟩, fun _ => ⟨_, rfl⟩, fun _ _ _ _ _ _ _ _ _ _ _ _ _ _ => ⟨_, rfl⟩, fun _ _ _ _ _ _ _ _ _ _ _ _ _ _ _ => rfl⟩
theorem pp_4_12 : PP [97, 98] [98, 97, 98] := ⟨fun _ => ⟨_, rfl⟩, fun _ => ⟨_, rfl⟩, fun _ _ _ _ _ _ _ _ _ _ _ _ _ _ => ⟨_, rfl⟩, fun _ _ _ _ _ _ _ _ _ _ _ _ _ _ _ => rfl⟩
theorem pp_4_13 : PP [97, 98] [98, 98, 97] := ⟨fun _ => ⟨_, rfl⟩, fun _ => ⟨_, rfl⟩, fun _ _ _ _ _ _ _ _ _ _ _ _ _ _ => ⟨_, rfl⟩, fun _ _ _ _ _ _ _ _ _ _ _ _ _ _ _ => rfl⟩
theorem pp_4_14 : PP [97, 98] [98, 98, 98] := ⟨fun _ => ⟨_, rfl⟩, fun _ => ⟨_, rfl⟩, fun _ _ _ _ _ _ _ _ _ _ _ _ _ _ => ⟨_, rfl⟩, fun _ _ _ _ _ _ _ _ _ _ _ _ _ _ _ => rfl⟩
theorem pp_4_15 : PP [97, 98] [97, 97, 97, 97] := ⟨fun _ => ⟨_, rfl⟩, fun _ => ⟨_, rfl⟩, fun _ _ _ _ _ _ _ _ _ _ _ _ _ _ => ⟨_, rfl⟩, fun _ _ _ _ _ _ _ _ _ _ _ _ _ _ _ => rfl⟩
theorem pp_4_16 : PP [97, 98] [97, 97, 97, 98] := ⟨fun _ => ⟨_, rfl⟩, fun _ => ⟨_, rfl⟩, fun _ _ _ _ _ _ _ _ _ _ _ _ _ _ => ⟨_, rfl⟩, fun _ _ _ _ _ _ _ _ _ _ _ _ _ _ _ => rfl⟩
theorem pp_4_17 : PP [97, 98] [97, 97, 98, 97] := ⟨fun _ => ⟨_, rfl⟩, fun _ => ⟨_, rfl⟩, fun _ _ _ _ _ _ _ _ _ _ _ _ _ _ => ⟨_, rfl⟩, fun _ _ _ _ _ _ _ _ _ _ _ _ _ _ _ => rfl⟩
theorem pp_4_18 : PP [97, 98] [97, 97, 98, 98] := ⟨fun _ => ⟨_, rfl⟩, fun _ => ⟨_, rfl⟩, fun _ _ _ _ _ _ _ _ _ _ _ _ _ _ => ⟨_, rfl⟩, fun _ _ _ _ _ _ _ _ _ _ _ _ _ _ _ => rfl⟩
theorem pp_4_19 : PP [97, 98] [97, 98, 97, 97] := ⟨fun _ => ⟨_, rfl⟩, fun _ => ⟨_, rfl⟩, fun _ _ _ _ _ _ _ _ _ _ _ _ _ _ => ⟨_, rfl⟩, fun _ _ _ _ _ _ _ _ _ _ _ _ _ _ _ => rfl⟩
theorem pp_4_20 : PP [97, 98] [97, 98, 97, 98] := ⟨fun _ => ⟨_, rfl⟩, fun _ => ⟨_, rfl⟩, fun _ _ _ _ _ _ _ _ _ _ _ _ _ _ => ⟨_, rfl⟩, fun _ _ _ _ _ _ _ _ _ _ _ _ _ _ _ => rfl⟩
theorem pp_4_21 : PP [97, 98] [97, 98, 98, 97] := ⟨fun _ => ⟨_, rfl⟩, fun _ => ⟨_, rfl⟩, fun _ _ _ _ _ _ _ _ _ _ _ _ _ _ => ⟨_, rfl⟩, fun _ _ _ _ _ _ _ _ _ _ _ _ _ _ _ => rfl⟩
theorem pp_4_22 : PP [97, 98] [97, 98, 98, 98] := ⟨fun _ => ⟨_, rfl⟩, fun _ => ⟨_, rfl⟩, fun _ _ _ _ _ _ _ _ _ _ _ _ _ _ => ⟨_, rfl⟩, fun _ _ _ _ _ _ _ _ _ _ _ _ _ _ _ => rfl⟩
theorem pp_4_23 : PP [97, 98] [98, 97, 97, 97] := ⟨fun _ => ⟨_, rfl⟩, fun _ => ⟨_, rfl⟩, fun _ _ _ _ _ _ _ _ _ _ _ _ _ _ => ⟨_, rfl⟩, fun _ _ _ _ _ _ _ _ _ _ _ _ _ _ _ => rfl⟩
theorem pp_4_24 : PP [97, 98] [98, 97, 97, 98] := ⟨fun _ => ⟨_, rfl⟩, fun _ => ⟨_, rfl⟩, fun _ _ _ _ _ _ _ _ _ _ _ _ _ _ => ⟨_, rfl⟩, fun _ _ _ _ _ _ _ _ _ _ _ _ _ _ _ => rfl⟩
theorem pp_4_25 : PP [97, 98] [98, 97, 98, 97] := ⟨fun _ => ⟨_, rfl⟩, fun _ => ⟨_, rfl⟩, fun _ _ _ _ _ _ _ _ _ _ _ _ _ _ => ⟨_, rfl⟩, fun _ _ _ _ _ _ _ _ _ _ _ _ _ _ _ => rfl⟩
theorem pp_4_26 : PP [97, 98] [98, 97, 98, 98] := ⟨fun _ => ⟨_, rfl⟩, fun _ => ⟨_, rfl⟩, fun _ _ _ _ _ _ _ _ _ _ _ _ _ _ => ⟨_, rfl⟩, fun _ _ _ _ _ _ _ _ _ _ _ _ _ _ _ => rfl⟩
theorem pp_4_27 : PP [97, 98] [98, 98, 97, 97] := ⟨fun _ => ⟨_, rfl⟩, fun _ => ⟨_, rfl⟩, fun _ _ _ _ _ _ _ _ _ _ _ _ _ _ => ⟨_, rfl⟩, fun _ _ _ _ _ _ _ _ _ _ _ _ _ _ _ => rfl⟩
theorem pp_4_28 : PP [97, 98] [98, 98, 97, 98] := ⟨fun _ => ⟨_, rfl⟩, fun _ => ⟨_, rfl⟩, fun _ _ _ _ _ _ _ _ _ _ _ _ _ _ => ⟨_, rfl⟩, fun _ _ _ _ _ _ _ _ _ _ _ _ _ _ _ => rfl⟩
theorem pp_4_29 : PP [97, 98] [98, 98, 98, 97] := ⟨fun _ => ⟨_, rfl⟩, fun _ => ⟨_, rfl⟩, fun _ _ _ _ _ _ _ _ _ _ _ _ _ _ => ⟨_, rfl⟩, fun _ _ _ _ _ _ _ _ _ _ _ _ _ _ _ => rfl⟩
theorem pp_4_30 : PP [97, 98] [98, 98, 98, 98] := ⟨fun _ => ⟨_, rfl⟩, fun _ => ⟨_, rfl⟩, fun _ _ _ _ _ _ _ _ _ _ _ _ _ _ => ⟨_, rfl⟩, fun _ _ _ _ _ _ _ _ _ _ _ _ _ _ _ => rfl⟩
theorem pp_5_0 : PP [98, 97] [] := ⟨fun _ => ⟨_, rfl⟩, fun _ => ⟨_, rfl⟩, fun _ _ _ _ _ _ _ _ _ _ _ _ _ _ => ⟨_, rfl⟩, fun _ _ _ _ _ _ _ _ _ _ _ _ _ _ _ => rfl⟩
theorem pp_5_1 : PP [98, 97] [97] := ⟨fun _ => ⟨_, rfl⟩, fun _ => ⟨_, rfl⟩, fun _ _ _ _ _ _ _ _ _ _ _ _ _ _ => ⟨_, rfl⟩, fun _ _ _ _ _ _ _ _ _ _ _ _ _ _ _ => rfl⟩
theorem pp_5_2 : PP [98, 97] [98] := ⟨fun _ => ⟨_, rfl⟩, fun _ => ⟨_, rfl⟩, fun _ _ _ _ _ _ _ _ _ _ _ _ _ _ => ⟨_, rfl⟩, fun _ _ _ _ _ _ _ _ _ _ _ _ _ _ _ => rfl⟩
theorem pp_5_3 : PP [98, 97] [97, 97] := ⟨fun _ => ⟨_, rfl⟩, fun _ => ⟨_, rfl⟩, fun _ _ _ _ _ _ _ _ _ _ _ _ _ _ => ⟨_, rfl⟩, fun _ _ _ _ _ _ _ _ _ _ _ _ _ _ _ => rfl⟩
theorem pp_5_4 : PP [98, 97] [97, 98] := ⟨fun _ => ⟨_, rfl⟩, fun _ => ⟨_, rfl⟩, fun _ _ _ _ _ _ _ _ _ _ _ _ _ _ => ⟨_, rfl⟩, fun _ _ _ _ _ _ _ _ _ _ _ _ _ _ _ => rfl⟩
theorem pp_5_5 : PP [98, 97] [98, 97] := ⟨fun _ => ⟨_, rfl⟩, fun _ => ⟨_, rfl⟩, fun _ _ _ _ _ _ _ _ _ _ _ _ _ _ => ⟨_, rfl⟩, fun _ _ _ _ _ _ _ _ _ _ _ _ _ _ _ => rfl⟩
theorem pp_5_6 : PP [98, 97] [98, 98] := ⟨fun _ => ⟨_, rfl⟩, fun _ => ⟨_, rfl⟩, fun _ _ _ _ _ _ _ _ _ _ _ _ _ _ => ⟨_, rfl⟩, fun _ _ _ _ _ _ _ _ _ _ _ _ _ _ _ => rfl⟩
theorem pp_5_7 : PP [98, 97] [97, 97, 97] := ⟨fun _ => ⟨_, rfl⟩, fun _ => ⟨_, rfl⟩, fun _ _ _ _ _ _ _ _ _ _ _ _ _ _ => ⟨_, rfl⟩, fun _ _ _ _ _ _ _ _ _ _ _ _ _ _ _ => rfl⟩
theorem pp_5_8 : PP [98, 97] [97, 97, 98] := ⟨fun _ => ⟨_, rfl⟩, fun _ => ⟨_, rfl⟩, fun _ _ _ _ _ _ _ _ _ _ _ _ _ _ => ⟨_, rfl⟩, fun _ _ _ _ _ _ _ _ _ _ _ _ _ _ _ => rfl⟩
theorem pp_5_9 : PP [98, 97] [97, 98, 97] := ⟨fun _ => ⟨_, rfl⟩, fun _ => ⟨_, rfl⟩, fun _ _ _ _ _ _ _ _ _ _ _ _ _ _ => ⟨_, rfl⟩, fun _ _ _ _ _ _ _ _ _ _ _ _ _ _ _ => rfl⟩
theorem pp_5_10 : PP [98, 97] [97, 98, 98] := ⟨fun _ => ⟨_, rfl⟩, fun _ => ⟨_, rfl⟩, fun _ _ _ _ _ _ _ _ _ _ _ _ _ _ => ⟨_, rfl⟩, fun _ _ _ _ _ _ _ _ _ _ _ _ _ _ _ => rfl⟩
theorem pp_5_11 : PP [98, 97] [98, 97, 97] := ⟨fun _ => ⟨_, rfl⟩, fun _ => ⟨_, rfl⟩, fun _ _ _ _ _ _ _ _ _ _ _ _ _ _ => ⟨_, rfl⟩, fun _ _ _ _ _ _ _ _ _ _ _ _ _ _ _ => rfl⟩
theorem pp_5_12 : PP [98, 97] [98, 97, 98] := ⟨fun _ => ⟨_, rfl⟩, fun _ => ⟨_, rfl⟩, fun _ _ _ _ _ _ _ _ _ _ _ _ _ _ => ⟨_, rfl⟩, fun _ _ _ _ _ _ _ _ _ _ _ _ _ _ _ => rfl⟩
theorem pp_5_13 : PP [98, 97] [98, 98, 97] := ⟨fun _ => ⟨_, rfl⟩, fun _ => ⟨_, rfl⟩, fun _ _ _ _ _ _ _ _ _ _ _ _ _ _ => ⟨_, rfl⟩, fun _ _ _ _ _ _ _ _ _ _ _ _ _ _ _ => rfl⟩
theorem pp_5_14 : PP [98, 97] [98, 98, 98] := ⟨fun _ => ⟨_, rfl⟩, fun _ => ⟨_, rfl⟩, fun _ _ _ _ _ _ _ _ _ _ _ _ _ _ => ⟨_, rfl⟩, fun _ _ _ _ _ _ _ _ _ _ _ _ _ _ _ => rfl⟩
theorem pp_5_15 : PP [98, 97] [97, 97, 97, 97] := ⟨fun _ => ⟨_, rfl⟩, fun _ => ⟨_, rfl⟩, fun _ _ _ _ _ _ _ _ _ _ _ _ _ _ => ⟨_, rfl⟩, fun _ _ _ _ _ _ _ _ _ _ _ _ _ _ _ => rfl⟩
theorem pp_5_16 : PP [98, 97] [97, 97, 97, 98] := ⟨fun _ => ⟨_, rfl⟩, fun _ => ⟨_, rfl⟩, fun _ _ _ _ _ _ _ _ _ _ _ _ _ _ => ⟨_, rfl⟩, fun _ _ _ _ _ _ _ _ _ _ _ _ _ _ _ => rfl⟩
theorem pp_5_17 : PP [98, 97] [97, 97, 98, 97] := ⟨fun _ => ⟨_, rfl⟩, fun _ => ⟨_, rfl⟩, fun _ _ _ _ _ _ _ _ _ _ _ _ _ _ => ⟨_, rfl⟩, fun _ _ _ _ _ _ _ _ _ _ _ _ _ _ _ => rfl⟩
theorem pp_5_18 : PP [98, 97] [97, 97, 98, 98] := ⟨fun _ => ⟨_, rfl⟩, fun _ => ⟨_, rfl⟩, fun _ _ _ _ _ _ _ _ _ _ _ _ _ _ => ⟨_, rfl⟩, fun _ _ _ _ _ _ _ _ _ _ _ _ _ _ _ => rfl⟩
theorem pp_5_19 : PP [98, 97] [97, 98, 97, 97] := ⟨fun _ => ⟨_, rfl⟩, fun _ => ⟨_, rfl⟩, fun _ _ _ _ _ _ _ _ _ _ _ _ _ _ => ⟨_, rfl⟩, fun _ _ _ _ _ _ _ _ _ _ _ _ _ _ _ => rfl⟩
theorem pp_5_20 : PP [98, 97] [97, 98, 97, 98] := ⟨fun _ => ⟨_, rfl⟩, fun _ => ⟨_, rfl⟩, fun _ _ _ _ _ _ _ _ _ _ _ _ _ _ => ⟨_, rfl⟩, fun _ _ _ _ _ _ _ _ _ _ _ _ _ _ _ => rfl⟩
theorem pp_5_21 : PP [98, 97] [97, 98, 98, 97] := ⟨fun _ => ⟨_, rfl⟩, fun _ => ⟨_, rfl⟩, fun _ _ _ _ _ _ _ _ _ _ _ _ _ _ => ⟨_, rfl⟩, fun _ _ _ _ _ _ _ _ _ _ _ _ _ _ _ => rfl⟩
theorem pp_5_22 : PP [98, 97] [97, 98, 98, 98] := ⟨fun _ => ⟨_, rfl⟩, fun _ => ⟨_, rfl⟩, fun _ _ _ _ _ _ _ _ _ _ _ _ _ _ => ⟨_, rfl⟩, fun _ _ _ _ _ _ _ _ _ _ _ _ _ _ _ => rfl⟩
theorem pp_5_23 : PP [98, 97] [98, 97, 97, 97] := ⟨fun _ => ⟨_, rfl⟩, fun _ => ⟨_, rfl⟩, fun _ _ _ _ _ _ _ _ _ _ _ _ _ _ => ⟨_, rfl⟩, fun _ _ _ _ _ _ _ _ _ _ _ _ _ _ _ => rfl⟩
theorem pp_5_24 : PP [98, 97] [98, 97, 97, 98] := ⟨fun _ => ⟨_, rfl⟩, fun _ => ⟨_, rfl⟩, fun _ _ _ _ _ _ _ _ _ _ _ _ _ _ => ⟨_, rfl⟩, fun _ _ _ _ _ _ _ _ _ _ _ _ _ _ _ => rfl⟩
theorem pp_5_25 : PP [98, 97] [98, 97, 98, 97] := ⟨fun _ => ⟨_, rfl⟩, fun _ => ⟨_, rfl⟩, fun _ _ _ _ _ _ _ _ _ _ _ _ _ _ => ⟨_, rfl⟩, fun _ _ _ _ _ _ _ _ _ _ _ _ _ _ _ => rfl⟩
theorem pp_5_26 : PP [98, 97] [98, 97, 98, 98] := ⟨fun _ => ⟨_, rfl⟩, fun _ => ⟨_, rfl⟩, fun _ _ _ _ _ _ _ _ _ _ _ _ _ _ => ⟨_, rfl⟩, fun _ _ _ _ _ _ _ _ _ _ _ _ _ _ _ => rfl⟩
theorem pp_5_27 : PP [98, 97] [98, 98, 97, 97] := ⟨fun _ => ⟨_, rfl⟩, fun _ => ⟨_, rfl⟩, fun _ _ _ _ _ _ _ _ _ _ _ _ _ _ => ⟨_, rfl⟩, fun _ _ _ _ _ _ _ _ _ _ _ _ _ _ _ => rfl⟩
theorem pp_5_28 : PP [98, 97] [98, 98, 97, 98] := ⟨fun _ => ⟨_, rfl⟩, fun _ => ⟨_, rfl⟩, fun _ _ _ _ _ _ _ _ _ _ _ _ _ _ => ⟨_, rfl⟩, fun _ _ _ _ _ _ _ _ _ _ _ _ _ _ _ => rfl⟩
theorem pp_5_29 : PP [98, 97] [98, 98, 98, 97] := ⟨fun _ => ⟨_, rfl⟩, fun _ => ⟨_, rfl⟩, fun _ _ _ _ _ _ _ _ _ _ _ _ _ _ => ⟨_, rfl⟩, fun _ _ _ _ _ _ _ _ _ _ _ _ _ _ _ => rfl⟩
theorem pp_5_30 : PP [98, 97] [98, 98, 98, 98] := ⟨fun _ => ⟨_, rfl⟩, fun _ => ⟨_, rfl⟩, fun _ _ _ _ _ _ _ _ _ _ _ _ _ _ => ⟨_, rfl⟩, fun _ _ _ _ _ _ _ _ _ _ _ _ _ _ _ => rfl⟩
theorem pp_6_0 : PP [98, 98] [] := ⟨fun _ => ⟨_, rfl⟩, fun _ => ⟨_, rfl⟩, fun _ _ _ _ _ _ _ _ _ _ _ _ _ _ => ⟨_, rfl⟩, fun _ _ _ _ _ _ _ _ _ _ _ _ _ _ _ => rfl⟩
theorem pp_6_1 : PP [98, 98] [97] := ⟨fun _ => ⟨_, rfl⟩, fun _ => ⟨_, rfl⟩, fun _ _ _ _ _ _ _ _ _ _ _ _ _ _ => ⟨_, rfl⟩, fun _ _ _ _ _ _ _ _ _ _ _ _ _ _ _ => rfl⟩
theorem pp_6_2 : PP [98, 98] [98] := ⟨fun _ => ⟨_, rfl⟩, fun _ => ⟨_, rfl⟩, fun _ _ _ _ _ _ _ _ _ _ _ _ _ _ => ⟨_, rfl⟩, fun _ _ _ _ _ _ _ _ _ _ _ _ _ _ _ => rfl⟩
theorem pp_6_3 : PP [98, 98] [97, 97] := ⟨fun _ => ⟨_, rfl⟩, fun _ => ⟨_, rfl⟩, fun _ _ _ _ _ _ _ _ _ _ _ _ _ _ => ⟨_, rfl⟩, fun _ _ _ _ _ _ _ _ _ _ _ _ _ _ _ => rfl⟩
theorem pp_6_4 : PP [98, 98] [97, 98] := ⟨fun _ => ⟨_, rfl⟩, fun _ => ⟨_, rfl⟩, fun _ _ _ _ _ _ _ _ _ _ _ _ _ _ => ⟨_, rfl⟩, fun _ _ _ _ _ _ _ _ _ _ _ _ _ _ _ => rfl⟩
theorem pp_6_5 : PP [98, 98] [98, 97] := ⟨fun _ => ⟨_, rfl⟩, fun _ => ⟨_, rfl⟩, fun _ _ _ _ _ _ _ _ _ _ _ _ _ _ => ⟨_, rfl⟩, fun _ _ _ _ _ _ _ _ _ _ _ _ _ _ _ => rfl⟩
theorem pp_6_6 : PP [98, 98] [98, 98] := ⟨fun _ => ⟨_, rfl⟩, fun _ => ⟨_, rfl⟩, fun _ _ _ _ _ _ _ _ _ _ _ _ _ _ => ⟨_, rfl⟩, fun _ _ _ _ _ _ _ _ _ _ _ _ _ _ _ => rfl⟩
theorem pp_6_7 : PP [98, 98] [97, 97, 97] := ⟨fun _ => ⟨_, rfl⟩, fun _ => ⟨_, rfl⟩, fun _ _ _ _ _ _ _ _ _ _ _ _ _ _ => ⟨_, rfl⟩, fun _ _ _ _ _ _ _ _ _ _ _ _ _ _ _ => rfl⟩
theorem pp_6_8 : PP [98, 98] [97, 97, 98] := ⟨fun _ => ⟨_, rfl⟩, fun _ => ⟨_, rfl⟩, fun _ _ _ _ _ _ _ _ _ _ _ _ _ _ => ⟨_, rfl⟩, fun _ _ _ _ _ _ _ _ _ _ _ _ _ _ _ => rfl⟩
theorem pp_6_9 : PP [98, 98] [97, 98, 97] := ⟨fun _ => ⟨_, rfl⟩, fun _ => ⟨_, rfl⟩, fun _ _ _ _ _ _ _ _ _ _ _ _ _ _ => ⟨_, rfl⟩, fun _ _ _ _ _ _ _ _ _ _ _ _ _ _ _ => rfl⟩
theorem pp_6_10 : PP [98, 98] [97, 98, 98] := ⟨fun _ => ⟨_, rfl⟩, fun _ => ⟨_, rfl⟩, fun _ _ _ _ _ _ _ _ _ _ _ _ _ _ => ⟨_, rfl⟩, fun _ _ _ _ _ _ _ _ _ _ _ _ _ _ _ => rfl⟩
theorem pp_6_11 : PP [98, 98] [98, 97, 97] := ⟨fun _ => ⟨_, rfl⟩, fun _ => ⟨_, rfl⟩, fun _ _ _ _ _ _ _ _ _ _ _ _ _ _ => ⟨_, rfl⟩, fun _ _ _ _ _ _ _ _ _ _ _ _ _ _ _ => rfl⟩
theorem pp_6_12 : PP [98, 98] [98, 97, 98] := ⟨fun _ => ⟨_, rfl⟩, fun _ => ⟨_, rfl⟩, fun _ _ _ _ _ _ _ _ _ _ _ _ _ _ => ⟨_, rfl⟩, fun _ _ _ _ _ _ _ _ _ _ _ _ _ _ _ => rfl⟩
theorem pp_6_13 : PP [98, 98] [98, 98, 97] := ⟨fun _ => ⟨_, rfl⟩, fun _ => ⟨_, rfl⟩, fun _ _ _ _ _ _ _ _ _ _ _ _ _ _ => ⟨_, rfl⟩, fun _ _ _ _ _ _ _ _ _ _ _ _ _ _ _ => rfl⟩
theorem pp_6_14 : PP [98, 98] [98, 98, 98] := ⟨fun _ => ⟨_, rfl⟩, fun _ => ⟨_, rfl⟩, fun _ _ _ _ _ _ _ _ _ _ _ _ _ _ => ⟨_, rfl⟩, fun _ _ _ _ _ _ _ _ _ _ _ _ _ _ _ => rfl⟩
theorem pp_6_15 : PP [98, 98] [97, 97, 97, 97] := ⟨fun _ => ⟨_, rfl⟩, fun _ => ⟨_, rfl⟩, fun _ _ _ _ _ _ _ _ _ _ _ _ _ _ => ⟨_, rfl⟩, fun _ _ _ _ _ _ _ _ _ _ _ _ _ _ _ => rfl⟩
theorem pp_6_16 : PP [98, 98] [97, 97, 97, 98] := ⟨fun _ => ⟨_, rfl⟩, fun _ => ⟨_, rfl⟩, fun _ _ _ _ _ _ _ _ _ _ _ _ _ _ => ⟨_, rfl⟩, fun _ _ _ _ _ _ _ _ _ _ _ _ _ _ _ => rfl⟩
theorem pp_6_17 : PP [98, 98] [97, 97, 98, 97] := ⟨fun _ => ⟨_, rfl⟩, fun _ => ⟨_, rfl⟩, fun _ _ _ _ _ _ _ _ _ _ _ _ _ _ => ⟨_, rfl⟩, fun _ _ _ _ _ _ _ _ _ _ _ _ _ _ _ => rfl⟩
theorem pp_6_18 : PP [98, 98] [97, 97, 98, 98] := ⟨fun _ => ⟨_, rfl⟩, fun _ => ⟨_, rfl⟩, fun _ _ _ _ _ _ _ _ _ _ _ _ _ _ => ⟨_, rfl⟩, fun _ _ _ _ _ _ _ _ _ _ _ _ _ _ _ => rfl⟩
theorem pp_6_19 : PP [98, 98] [97, 98, 97, 97] := ⟨fun _ => ⟨_, rfl⟩, fun _ => ⟨_, rfl⟩, fun _ _ _ _ _ _ _ _ _ _ _ _ _ _ => ⟨_, rfl⟩, fun _ _ _ _ _ _ _ _ _ _ _ _ _ _ _ => rfl⟩
theorem pp_6_20 : PP [98, 98] [97, 98, 97, 98] := ⟨fun _ => ⟨_, rfl⟩, fun _ => ⟨_, rfl⟩, fun _ _ _ _ _ _ _ _ _ _ _ _ _ _ => ⟨_, rfl⟩, fun _ _ _ _ _ _ _ _ _ _ _ _ _ _ _ => rfl⟩
theorem pp_6_21 : PP [98, 98] [97, 98, 98, 97] := ⟨fun _ => ⟨_, rfl⟩, fun _ => ⟨_, rfl⟩, fun _ _ _ _ _ _ _ _ _ _ _ _ _ _ => ⟨_, rfl⟩, fun _ _ _ _ _ _ _ _ _ _ _ _ _ _ _ => rfl⟩
theorem pp_6_22 : PP [98, 98] [97, 98, 98, 98] := ⟨fun _ => ⟨_, rfl⟩, fun _ => ⟨_, rfl⟩, fun _ _ _ _ _ _ _ _ _ _ _ _ _ _ => ⟨_, rfl⟩, fun _ _ _ _ _ _ _ _ _ _ _ _ _ _ _ => rfl⟩
theorem pp_6_23 : PP [98, 98] [98, 97, 97, 97] := ⟨fun _ => ⟨_, rfl⟩, fun _ => ⟨_, rfl⟩, fun _ _ _ _ _ _ _ _ _ _ _ _ _ _ => ⟨_, rfl⟩, fun _ _ _ _ _ _ _ _ _ _ _ _ _ _ _ => rfl⟩
theorem pp_6_24 : PP [98, 98] [98, 97, 97, 98] := ⟨fun _ => ⟨_, rfl⟩, fun _ => ⟨_, rfl⟩, fun _ _ _ _ _ _ _ _ _ _ _ _ _ _ => ⟨_, rfl⟩, fun _ _ _ _ _ _ _ _ _ _ _ _ _ _ _ => rfl⟩
theorem pp_6_25 : PP [98, 98] [98, 97, 98, 97] := ⟨fun _ => ⟨_, rfl⟩, fun _ => ⟨_, rfl⟩, fun _ _ _ _ _ _ _ _ _ _ _ _ _ _ => ⟨_, rfl⟩, fun _ _ _ _ _ _ _ _ _ _ _ _ _ _ _ => rfl⟩
theorem pp_6_26 : PP [98, 98] [98, 97, 98, 98] := ⟨fun _ => ⟨_, rfl⟩, fun _ => ⟨_, rfl⟩, fun _ _ _ _ _ _ _ _ _ _ _ _ _ _ => ⟨_, rfl⟩, fun _ _ _ _ _ _ _ _ _ _ _ _ _ _ _ => rfl⟩
theorem pp_6_27 : PP [98, 98] [98, 98, 97, 97] := ⟨fun _ => ⟨_, rfl⟩, fun _ => ⟨_, rfl⟩, fun _ _ _ _ _ _ _ _ _ _ _ _ _ _ => ⟨_, rfl⟩, fun _ _ _ _ _ _ _ _ _ _ _ _ _ _ _ => rfl⟩
theorem pp_6_28 : PP [98, 98] [98, 98, 97, 98] := ⟨fun _ => ⟨_, rfl⟩, fun _ => ⟨_, rfl⟩, fun _ _ _ _ _ _ _ _ _ _ _ _ _ _ => ⟨_, rfl⟩, fun _ _ _ _ _ _ _ _ _ _ _ _ _ _ _ => rfl⟩
theorem pp_6_29 : PP [98, 98] [98, 98, 98, 97] := ⟨fun _ => ⟨_, rfl⟩, fun _ => ⟨_, rfl⟩, fun _ _ _ _ _ _ _ _ _ _ _ _ _ _ => ⟨_, rfl⟩, fun _ _ _ _ _ _ _ _ _ _ _ _ _ _ _ => rfl⟩
theorem pp_6_30 : PP [98, 98] [98, 98, 98, 98] := ⟨fun _ => ⟨_, rfl⟩, fun _ => ⟨_, rfl⟩, fun _ _ _ _ _ _ _ _ _ _ _ _ _ _ => ⟨_, rfl⟩, fun _ _ _ _ _ _ _ _ _ _ _ _ _ _ _ => rfl⟩
theorem pp_7_0 : PP [97, 97, 97] [] := ⟨fun _ => ⟨_, rfl⟩, fun _ => ⟨_, rfl⟩, fun _ _ _ _ _ _ _ _ _ _ _ _ _ _ => ⟨_, rfl⟩, fun _ _ _ _ _ _ _ _ _ _ _ _ _ _ _ => rfl⟩
theorem pp_7_1 : PP [97, 97, 97] [97] := ⟨fun _ => ⟨_, rfl⟩, fun _ => ⟨_, rfl⟩, fun _ _ _ _ _ _ _ _ _ _ _ _ _ _ => ⟨_, rfl⟩, fun _ _ _ _ _ _ _ _ _ _ _ _ _ _ _ => rfl⟩
theorem pp_7_2 : PP [97, 97, 97] [98] := ⟨fun _ => ⟨_, rfl⟩, fun _ => ⟨_, rfl⟩, fun _ _ _ _ _ _ _ _ _ _ _ _ _ _ => ⟨_, rfl⟩, fun _ _ _ _ _ _ _ _ _ _ _ _ _ _ _ => rfl⟩
theorem pp_7_3 : PP [97, 97, 97] [97, 97] := ⟨fun _ => ⟨_, rfl⟩, fun _ => ⟨_, rfl⟩, fun _ _ _ _ _ _ _ _ _ _ _ _ _ _ => ⟨_, rfl⟩, fun _ _ _ _ _ _ _ _ _ _ _ _ _ _ _ => rfl⟩
theorem pp_7_4 : PP [97, 97, 97] [97, 98] := ⟨fun _ => ⟨_, rfl⟩, fun _ => ⟨_, rfl⟩, fun _ _ _ _ _ _ _ _ _ _ _ _ _ _ => ⟨_, rfl⟩, fun _ _ _ _ _ _ _ _ _ _ _ _ _ _ _ => rfl⟩
theorem pp_7_5 : PP [97, 97, 97] [98, 97] := ⟨fun _ => ⟨_, rfl⟩, fun _ => ⟨_, rfl⟩, fun _ _ _ _ _ _ _ _ _ _ _ _ _ _ => ⟨_, rfl⟩, fun _ _ _ _ _ _ _ _ _ _ _ _ _ _ _ => rfl⟩
theorem pp_7_6 : PP [97, 97, 97] [98, 98] := ⟨fun _ => ⟨_, rfl⟩, fun _ => ⟨_, rfl⟩, fun _ _ _ _ _ _ _ _ _ _ _ _ _ _ => ⟨_, rfl⟩, fun _ _ _ _ _ _ _ _ _ _ _ _ _ _ _ => rfl⟩
theorem pp_7_7 : PP [97, 97, 97] [97, 97, 97] := ⟨fun _ => ⟨_, rfl⟩, fun _ => ⟨_, rfl⟩, fun _ _ _ _ _ _ _ _ _ _ _ _ _ _ => ⟨_, rfl⟩, fun _ _ _ _ _ _ _ _ _ _ _ _ _ _ _ => rfl⟩
theorem pp_7_8 : PP [97, 97, 97] [97, 97, 98] := ⟨fun _ => ⟨_, rfl⟩, fun _ => ⟨_, rfl⟩, fun _ _ _ _ _ _ _ _ _ _ _ _ _ _ => ⟨_, rfl⟩, fun _ _ _ _ _ _ _ _ _ _ _ _ _ _ _ => rfl⟩
theorem pp_7_9 : PP [97, 97, 97] [97, 98, 97] := ⟨fun _ => ⟨_, rfl⟩, fun _ => ⟨_, rfl⟩, fun _ _ _ _ _ _ _ _ _ _ _ _ _ _ => ⟨_, rfl⟩, fun _ _ _ _ _ _ _ _ _ _ _ _ _ _ _ => rfl⟩
theorem pp_7_10 : PP [97, 97, 97] [97, 98, 98] := ⟨fun _ => ⟨_, rfl⟩, fun _ => ⟨_, rfl⟩, fun _ _ _ _ _ _ _ _ _ _ _ _ _ _ => ⟨_, rfl⟩, fun _ _ _ _ _ _ _ _ _ _ _ _ _ _ _ => rfl⟩
theorem pp_7_11 : PP [97, 97, 97] [98, 97, 97] := ⟨fun _ => ⟨_, rfl⟩, fun _ => ⟨_, rfl⟩, fun _ _ _ _ _ _ _ _ _ _ _ _ _ _ => ⟨_, rfl⟩, fun _ _ _ _ _ _ _ _ _ _ _ _ _ _ _ => rfl⟩
theorem pp_7_12 : PP [97, 97, 97] [98, 97, 98] := ⟨fun _ => ⟨_, rfl⟩, fun _ => ⟨_, rfl⟩, fun _ _ _ _ _ _ _ _ _ _ _ _ _ _ => ⟨_, rfl⟩, fun _ _ _ _ _ _ _ _ _ _ _ _ _ _ _ => rfl⟩
theorem pp_7_13 : PP [97, 97, 97] [98, 98, 97] := ⟨fun _ => ⟨_, rfl⟩, fun _ => ⟨_, rfl⟩, fun _ _ _ _ _ _ _ _ _ _ _ _ _ _ => ⟨_, rfl⟩, fun _ _ _ _ _ _ _ _ _ _ _ _ _ _ _ => rfl⟩
theorem pp_7_14 : PP [97, 97, 97] [98, 98, 98] := ⟨fun _ => ⟨_, rfl⟩, fun _ => ⟨_, rfl⟩, fun _ _ _ _ _ _ _ _ _ _ _ _ _ _ => ⟨_, rfl⟩, fun _ _ _ _ _ _ _ _ _ _ _ _ _ _ _ => rfl⟩
theorem pp_7_15 : PP [97, 97, 97] [97, 97, 97, 97] := ⟨fun _ => ⟨_, rfl⟩, fun _ => ⟨_, rfl⟩, fun _ _ _ _ _ _ _ _ _ _ _ _ _ _ => ⟨_, rfl⟩, fun _ _ _ _ _ _ _ _ _ _ _ _ _ _ _ => rfl⟩
theorem pp_7_16 : PP [97, 97, 97] [97, 97, 97, 98] := ⟨fun _ => ⟨_, rfl⟩, fun _ => ⟨_, rfl⟩, fun _ _ _ _ _ _ _ _ _ _ _ _ _ _ => ⟨_, rfl⟩, fun _ _ _ _ _ _ _ _ _ _ _ _ _ _ _ => rfl⟩
theorem pp_7_17 : PP [97, 97, 97] [97, 97, 98, 97] := ⟨fun _ => ⟨_, rfl⟩, fun _ => ⟨_, rfl⟩, fun _ _ _ _ _ _ _ _ _ _ _ _ _ _ => ⟨_, rfl⟩, fun _ _ _ _ _ _ _ _ _ _ _ _ _ _ _ => rfl⟩
theorem pp_7_18 : PP [97, 97, 97] [97, 97, 98, 98] := ⟨fun _ => ⟨_, rfl⟩, fun _ => ⟨_, rfl⟩, fun _ _ _ _ _ _ _ _ _ _ _ _ _ _ => ⟨_, rfl⟩, fun _ _ _ _ _ _ _ _ _ _ _ _ _ _ _ => rfl⟩
theorem pp_7_19 : PP [97, 97, 97] [97, 98, 97, 97] := ⟨fun _ => ⟨_, rfl⟩, fun _ => ⟨_, rfl⟩, fun _ _ _ _ _ _ _ _ _ _ _ _ _ _ => ⟨_, rfl⟩, fun _ _ _ _ _ _ _ _ _ _ _ _ _ _ _ => rfl⟩
theorem pp_7_20 : PP [97, 97, 97] [97, 98, 97, 98] := ⟨fun _ => ⟨_, rfl⟩, fun _ => ⟨_, rfl⟩, fun _ _ _ _ _ _ _ _ _ _ _ _ _ _ => ⟨_, rfl⟩, fun _ _ _ _ _ _ _ _ _ _ _ _ _ _ _ => rfl⟩
theorem pp_7_21 : PP [97, 97, 97] [97, 98, 98, 97] := ⟨fun _ => ⟨_, rfl⟩, fun _ => ⟨_, rfl⟩, fun _ _ _ _ _ _ _ _ _ _ _ _ _ _ => ⟨_, rfl⟩, fun _ _ _ _ _ _ _ _ _ _ _ _ _ _ _ => rfl⟩
theorem pp_7_22 : PP [97, 97, 97] [97, 98, 98, 98] := ⟨fun _ => ⟨_, rfl⟩, fun _ => ⟨_, rfl⟩, fun _ _ _ _ _ _ _ _ _ _ _ _ _ _ => ⟨_, rfl⟩, fun _ _ _ _ _ _ _ _ _ _ _ _ _ _ _ => rfl⟩
theorem pp_7_23 : PP [97, 97, 97] [98, 97, 97, 97] := ⟨fun _ => ⟨_, rfl⟩, fun _ => ⟨_, rfl⟩, fun _ _ _ _ _ _ _ _ _ _ _ _ _ _ => ⟨_, rfl⟩, fun _ _ _ _ _ _ _ _ _ _ _ _ _ _ _ => rfl⟩
theorem pp_7_24 : PP [97, 97, 97] [98, 97, 97, 98] := ⟨fun _ => ⟨_, rfl⟩, fun _ => ⟨_, rfl⟩, fun _ _ _ _ _ _ _ _ _ _ _ _ _ _ => ⟨_, rfl⟩, fun _ _ _ _ _ _ _ _ _ _ _ _ _ _ _ => rfl⟩
theorem pp_7_25 : PP [97, 97, 97] [98, 97, 98, 97] := ⟨fun _ => ⟨_, rfl⟩, fun _ => ⟨_, rfl⟩, fun _ _ _ _ _ _ _ _ _ _ _ _ _ _ => ⟨_, rfl⟩, fun _ _ _ _ _ _ _ _ _ _ _ _ _ _ _ => rfl⟩
theorem pp_7_26 : PP [97, 97, 97] [98, 97, 98, 98] := ⟨fun _ => ⟨_, rfl⟩, fun _ => ⟨_, rfl⟩, fun _ _ _ _ _ _ _ _ _ _ _ _ _ _ => ⟨_, rfl⟩, fun _ _ _ _ _ _ _ _ _ _ _ _ _ _ _ => rfl⟩
theorem pp_7_27 : PP [97, 97, 97] [98, 98, 97, 97] := ⟨fun _ => ⟨_, rfl⟩, fun _ => ⟨_, rfl⟩, fun _ _ _ _ _ _ _ _ _ _ _ _ _ _ => ⟨_, rfl⟩, fun _ _ _ _ _ _ _ _ _ _ _ _ _ _ _ => rfl⟩
theorem pp_7_28 : PP [97, 97, 97] [98, 98, 97, 98] := ⟨fun _ => ⟨_, rfl⟩, fun _ => ⟨_, rfl⟩, fun _ _ _ _ _ _ _ _ _ _ _ _ _ _ => ⟨_, rfl⟩, fun _ _ _ _ _ _ _ _ _ _ _ _ _ _ _ => rfl⟩
theorem pp_7_29 : PP [97, 97, 97] [98, 98, 98, 97] := ⟨fun _ => ⟨_, rfl⟩, fun _ => ⟨_, rfl⟩, fun _ _ _ _ _ _ _ _ _ _ _ _ _ _ => ⟨_, rfl⟩, fun _ _ _ _ _ _ _ _ _ _ _ _ _ _ _ => rfl⟩
theorem pp_7_30 : PP [97, 97, 97] [98, 98, 98, 98] := ⟨fun _ => ⟨_, rfl⟩, fun _ => ⟨_, rfl⟩, fun _ _ _ _ _ _ _ _ _ _ _ _ _ _ => ⟨_, rfl⟩, fun _ _ _ _ _ _ _ _ _ _ _ _ _ _ _ => rfl⟩
theorem pp_8_0 : PP [97, 97, 98] [] := ⟨fun _ => ⟨_, rfl⟩, fun _ => ⟨_, rfl⟩, fun _ _ _ _ _ _ _ _ _ _ _ _ _ _ => ⟨_, rfl⟩, fun _ _ _ _ _ _ _ _ _ _ _ _ _ _ _ => rfl⟩
theorem pp_8_1 : PP [97, 97, 98] [97] := ⟨fun _ => ⟨_, rfl⟩, fun _ => ⟨_, rfl⟩, fun _ _ _ _ _ _ _ _ _ _ _ _ _ _ => ⟨_, rfl⟩, fun _ _ _ _ _ _ _ _ _ _ _ _ _ _ _ => rfl⟩
theorem pp_8_2 : PP [97, 97, 98] [98] := ⟨fun _ => ⟨_, rfl⟩, fun _ => ⟨_, rfl⟩, fun _ _ _ _ _ _ _ _ _ _ _ _ _ _ => ⟨_, rfl⟩, fun _ _ _ _ _ _ _ _ _ _ _ _ _ _ _ => rfl⟩
theorem pp_8_3 : PP [97, 97, 98] [97, 97] := ⟨fun _ => ⟨_, rfl⟩, fun _ => ⟨_, rfl⟩, fun _ _ _ _ _ _ _ _ _ _ _ _ _ _ => ⟨_, rfl⟩, fun _ _ _ _ _ _ _ _ _ _ _ _ _ _ _ => rfl⟩
theorem pp_8_4 : PP [97, 97, 98] [97, 98] := ⟨fun _ => ⟨_, rfl⟩, fun _ => ⟨_, rfl⟩, fun _ _ _ _ _ _ _ _ _ _ _ _ _ _ => ⟨_, rfl⟩, fun _ _ _ _ _ _ _ _ _ _ _ _ _ _ _ => rfl⟩
theorem pp_8_5 : PP [97, 97, 98] [98, 97] := ⟨fun _ => ⟨_, rfl⟩, fun _ => ⟨_, rfl⟩, fun _ _ _ _ _ _ _ _ _ _ _ _ _ _ => ⟨_, rfl⟩, fun _ _ _ _ _ _ _ _ _ _ _ _ _ _ _ => rfl⟩
theorem pp_8_6 : PP [97, 97, 98] [98, 98] := ⟨fun _ => ⟨_, rfl⟩, fun _ => ⟨_, rfl⟩, fun _ _ _ _ _ _ _ _ _ _ _ _ _ _ => ⟨_, rfl⟩, fun _ _ _ _ _ _ _ _ _ _ _ _ _ _ _ => rfl⟩
theorem pp_8_7 : PP [97, 97, 98] [97, 97, 97] := ⟨fun _ => ⟨_, rfl⟩, fun _ => ⟨_, rfl⟩, fun _ _ _ _ _ _ _ _ _ _ _ _ _ _ => ⟨_, rfl⟩, fun _ _ _ _ _ _ _ _ _ _ _ _ _ _ _ => rfl⟩
theorem pp_8_8 : PP [97, 97, 98] [97, 97, 98] := ⟨fun _ => ⟨_, rfl⟩, fun _ => ⟨_, rfl⟩, fun _ _ _ _ _ _ _ _ _ _ _ _ _ _ => ⟨_, rfl⟩, fun _ _ _ _ _ _ _ _ _ _ _ _ _ _ _ => rfl⟩
theorem pp_8_9 : PP [97, 97, 98] [97, 98, 97] := ⟨fun _ => ⟨_, rfl⟩, fun _ => ⟨_, rfl⟩, fun _ _ _ _ _ _ _ _ _ _ _ _ _ _ => ⟨_, rfl⟩, fun _ _ _ _ _ _ _ _ _ _ _ _ _ _ _ => rfl⟩
theorem pp_8_10 : PP [97, 97, 98] [97, 98, 98] := ⟨fun _ => ⟨_, rfl⟩, fun _ => ⟨_, rfl⟩, fun _ _ _ _ _ _ _ _ _ _ _ _ _ _ => ⟨_, rfl⟩, fun _ _ _ _ _ _ _ _ _ _ _ _ _ _ _ => rfl⟩
theorem pp_8_11 : PP [97, 97, 98] [98, 97, 97] := ⟨fun _ => ⟨_, rfl⟩, fun _ => ⟨_, rfl⟩, fun _ _ _ _ _ _ _ _ _ _ _ _ _ _ => ⟨_, rfl⟩, fun _ _ _ _ _ _ _ _ _ _ _ _ _ _ _ => rfl⟩
theorem pp_8_12 : PP [97, 97, 98] [98, 97, 98] := ⟨fun _ => ⟨_, rfl⟩, fun _ => ⟨_, rfl⟩, fun _ _ _ _ _ _ _ _ _ _ _ _ _ _ => ⟨_, rfl⟩, fun _ _ _ _ _ _ _ _ _ _ _ _ _ _ _ => rfl⟩
theorem pp_8_13 : PP [97, 97, 98] [98, 98, 97] := ⟨fun _ => ⟨_, rfl⟩, fun _ => ⟨_, rfl⟩, fun _ _ _ _ _ _ _ _ _ _ _ _ _ _ => ⟨_, rfl⟩, fun _ _ _ _ _ _ _ _ _ _ _ _ _ _ _ => rfl⟩
theorem pp_8_14 : PP [97, 97, 98] [98, 98, 98] := ⟨fun _ => ⟨_, rfl⟩, fun _ => ⟨_, rfl⟩, fun _ _ _ _ _ _ _ _ _ _ _ _ _ _ => ⟨_, rfl⟩, fun _ _ _ _ _ _ _ _ _ _ _ _ _ _ _ => rfl⟩
theorem pp_8_15 : PP [97, 97, 98] [97, 97, 97, 97] := ⟨fun _ => ⟨_, rfl⟩, fun _ => ⟨_, rfl⟩, fun _ _ _ _ _ _ _ _ _ _ _ _ _ _ => ⟨_, rfl⟩, fun _ _ _ _ _ _ _ _ _ _ _ _ _ _ _ => rfl⟩
theorem pp_8_16 : PP [97, 97, 98] [97, 97, 97, 98] := ⟨fun _ => ⟨_, rfl⟩, fun _ => ⟨_, rfl⟩, fun _ _ _ _ _ _ _ _ _ _ _ _ _ _ => ⟨_, rfl⟩, fun _ _ _ _ _ _ _ _ _ _ _ _ _ _ _ => rfl⟩
theorem pp_8_17 : PP [97, 97, 98] [97, 97, 98, 97] := ⟨fun _ => ⟨_, rfl⟩, fun _ => ⟨_, rfl⟩, fun _ _ _ _ _ _ _ _ _ _ _ _ _ _ => ⟨_, rfl⟩, fun _ _ _ _ _ _ _ _ _ _ _ _ _ _ _ => rfl⟩
theorem pp_8_18 : PP [97, 97, 98] [97, 97, 98, 98] := ⟨fun _ => ⟨_, rfl⟩, fun _ => ⟨_, rfl⟩, fun _ _ _ _ _ _ _ _ _ _ _ _ _ _ => ⟨_, rfl⟩, fun _ _ _ _ _ _ _ _ _ _ _ _ _ _ _ => rfl⟩
theorem pp_8_19 : PP [97, 97, 98] [97, 98, 97, 97] := ⟨fun _ => ⟨_, rfl⟩, fun _ => ⟨_, rfl⟩, fun _ _ _ _ _ _ _ _ _ _ _ _ _ _ => ⟨_, rfl⟩, fun _ _ _ _ _ _ _ _ _ _ _ _ _ _ _ => rfl⟩
theorem pp_8_20 : PP [97, 97, 98] [97, 98, 97, 98] := ⟨fun _ => ⟨_, rfl⟩, fun _ => ⟨_, rfl⟩, fun _ _ _ _ _ _ _ _ _ _ _ _ _ _ => ⟨_, rfl⟩, fun _ _ _ _ _ _ _ _ _ _ _ _ _ _ _ => rfl⟩
theorem pp_8_21 : PP [97, 97, 98] [97, 98, 98, 97] := ⟨fun _ => ⟨_, rfl⟩, fun _ => ⟨_, rfl⟩, fun _ _ _ _ _ _ _ _ _ _ _ _ _ _ => ⟨_, rfl⟩, fun _ _ _ _ _ _ _ _ _ _ _ _ _ _ _ => rfl⟩
theorem pp_8_22 : PP [97, 97, 98] [97, 98, 98, 98] := ⟨fun _ => ⟨_, rfl⟩, fun _ => ⟨_, rfl⟩, fun _ _ _ _ _ _ _ _ _ _ _ _ _ _ => ⟨_, rfl⟩, fun _ _ _ _ _ _ _ _ _ _ _ _ _ _ _ => rfl⟩
theorem pp_8_23 : PP [97, 97, 98] [98, 97, 97, 97] := ⟨fun _ => ⟨_, rfl⟩, fun _ => ⟨_, rfl⟩, fun _ _ _ _ _ _ _ _ _ _ _ _ _ _ => ⟨_, rfl⟩, fun _ _ _ _ _ _ _ _ _ _ _ _ _ _ _ => rfl⟩
theorem pp_8_24 : PP [97, 97, 98] [98, 97, 97, 98] := ⟨fun _ => ⟨_, rfl⟩, fun _ => ⟨_, rfl⟩, fun _ _ _ _ _ _ _ _ _ _ _ _ _ _ => ⟨_, rfl⟩, fun _ _ _ _ _ _ _ _ _ _ _ _ _ _ _ => rfl⟩
theorem pp_8_25 : PP [97, 97, 98] [98, 97, 98, 97] := ⟨fun _ => ⟨_, rfl⟩, fun _ => ⟨_, rfl⟩, fun _ _ _ _ _ _ _ _ _ _ _ _ _ _ => ⟨_, rfl⟩, fun _ _ _ _ _ _ _ _ _ _ _ _ _ _ _ => rfl⟩
theorem pp_8_26 : PP [97, 97, 98] [98, 97, 98, 98] := ⟨fun _ => ⟨_, rfl⟩, fun _ => ⟨_, rfl⟩, fun _ _ _ _ _ _ _ _ _ _ _ _ _ _ => ⟨_, rfl⟩, fun _ _ _ _ _ _ _ _ _ _ _ _ _ _ _ => rfl⟩
theorem pp_8_27 : PP [97, 97, 98] [98, 98, 97, 97] := ⟨fun _ => ⟨_, rfl⟩, fun _ => ⟨_, rfl⟩, fun _ _ _ _ _ _ _ _ _ _ _ _ _ _ => ⟨_, rfl⟩, fun _ _ _ _ _ _ _ _ _ _ _ _ _ _ _ => rfl⟩
theorem pp_8_28 : PP [97, 97, 98] [98, 98, 97, 98] := ⟨fun _ => ⟨_, rfl⟩, fun _ => ⟨_, rfl⟩, fun _ _ _ _ _ _ _ _ _ _ _ _ _ _ => ⟨_, rfl⟩, fun _ _ _ _ _ _ _ _ _ _ _ _ _ _ _ => rfl⟩
theorem pp_8_29 : PP [97, 97, 98] [98, 98, 98, 97] := ⟨fun _ => ⟨_, rfl⟩, fun _ => ⟨_, rfl⟩, fun _ _ _ _ _ _ _ _ _ _ _ _ _ _ => ⟨_, rfl⟩, fun _ _ _ _ _ _ _ _ _ _ _ _ _ _ _ => rfl⟩
theorem pp_8_30 : PP [97, 97, 98] [98, 98, 98, 98] := ⟨fun _ => ⟨_, rfl⟩, fun _ => ⟨_, rfl⟩, fun _ _ _ _ _ _ _ _ _ _ _ _ _ _ => ⟨_, rfl⟩, fun _ _ _ _ _ _ _ _ _ _ _ _ _ _ _ => rfl⟩
theorem pp_9_0 : PP [97, 98, 97] [] := ⟨fun _ => ⟨_, rfl⟩, fun _ => ⟨_, rfl⟩, fun _ _ _ _ _ _ _ _ _ _ _ _ _ _ => ⟨_, rfl⟩, fun _ _ _ _ _ _ _ _ _ _ _ _ _ _ _ => rfl⟩
theorem pp_9_1 : PP [97, 98, 97] [97] := ⟨fun _ => ⟨_, rfl⟩, fun _ => ⟨_, rfl⟩, fun _ _ _ _ _ _ _ _ _ _ _ _ _ _ => ⟨_, rfl⟩, fun _ _ _ _ _ _ _ _ _ _ _ _ _ _ _ => rfl⟩
theorem pp_9_2 : PP [97, 98, 97] [98] := ⟨fun _ => ⟨_, rfl⟩, fun _ => ⟨_, rfl⟩, fun _ _ _ _ _ _ _ _ _ _ _ _ _ _ => ⟨_, rfl⟩, fun _ _ _ _ _ _ _ _ _ _ _ _ _ _ _ => rfl⟩
theorem pp_9_3 : PP [97, 98, 97] [97, 97] := ⟨fun _ => ⟨_, rfl⟩, fun _ => ⟨_, rfl⟩, fun _ _ _ _ _ _ _ _ _ _ _ _ _ _ => ⟨_, rfl⟩, fun _ _ _ _ _ _ _ _ _ _ _ _ _ _ _ => rfl⟩
theorem pp_9_4 : PP [97, 98, 97] [97, 98] := ⟨fun _ => ⟨_, rfl⟩, fun _ => ⟨_, rfl⟩, fun _ _ _ _ _ _ _ _ _ _ _ _ _ _ => ⟨_, rfl⟩, fun _ _ _ _ _ _ _ _ _ _ _ _ _ _ _ => rfl⟩
theorem pp_9_5 : PP [97, 98, 97] [98, 97] := ⟨fun _ => ⟨_, rfl⟩, fun _ => ⟨_, rfl⟩, fun _ _ _ _ _ _ _ _ _ _ _ _ _ _ => ⟨_, rfl⟩, fun _ _ _ _ _ _ _ _ _ _ _ _ _ _ _ => rfl⟩
theorem pp_9_6 : PP [97, 98, 97] [98, 98] := ⟨fun _ => ⟨_, rfl⟩, fun _ => ⟨_, rfl⟩, fun _ _ _ _ _ _ _ _ _ _ _ _ _ _ => ⟨_, rfl⟩, fun _ _ _ _ _ _ _ _ _ _ _ _ _ _ _ => rfl⟩
theorem pp_9_7 : PP [97, 98, 97] [97, 97, 97] := ⟨fun _ => ⟨_, rfl⟩, fun _ => ⟨_, rfl⟩, fun _ _ _ _ _ _ _ _ _ _ _ _ _ _ => ⟨_, rfl⟩, fun _ _ _ _ _ _ _ _ _ _ _ _ _ _ _ => rfl⟩
theorem pp_9_8 : PP [97, 98, 97] [97, 97, 98] := ⟨fun _ => ⟨_, rfl⟩, fun _ => ⟨_, rfl⟩, fun _ _ _ _ _ _ _ _ _ _ _ _ _ _ => ⟨_, rfl⟩, fun _ _ _ _ _ _ _ _ _ _ _ _ _ _ _ => rfl⟩
theorem pp_9_9 : PP [97, 98, 97] [97, 98, 97] := ⟨fun _ => ⟨_, rfl⟩, fun _ => ⟨_, rfl⟩, fun _ _ _ _ _ _ _ _ _ _ _ _ _ _ => ⟨_, rfl⟩, fun _ _ _ _ _ _ _ _ _ _ _ _ _ _ _ => rfl⟩
theorem pp_9_10 : PP [97, 98, 97] [97, 98, 98] := ⟨fun _ => ⟨_, rfl⟩, fun _ => ⟨_, rfl⟩, fun _ _ _ _ _ _ _ _ _ _ _ _ _ _ => ⟨_, rfl⟩, fun _ _ _ _ _ _ _ _ _ _ _ _ _ _ _ => rfl⟩
theorem pp_9_11 : PP [97, 98, 97] [98, 97, 97] := ⟨fun _ => ⟨_, rfl⟩, fun _ => ⟨_, rfl⟩, fun _ _ _ _ _ _ _ _ _ _ _ _ _ _ => ⟨_, rfl⟩, fun _ _ _ _ _ _ _ _ _ _ _ _ _ _ _ => rfl⟩
theorem pp_9_12 : PP [97, 98, 97] [98, 97, 98] := ⟨fun _ => ⟨_, rfl⟩, fun _ => ⟨_, rfl⟩, fun _ _ _ _ _ _ _ _ _ _ _ _ _ _ => ⟨_, rfl⟩, fun _ _ _ _ _ _ _ _ _ _ _ _ _ _ _ => rfl⟩
theorem pp_9_13 : PP [97, 98, 97] [98, 98, 97] := ⟨fun _ => ⟨_, rfl⟩, fun _ => ⟨_, rfl⟩, fun _ _ _ _ _ _ _ _ _ _ _ _ _ _ => ⟨_, rfl⟩, fun _ _ _ _ _ _ _ _ _ _ _ _ _ _ _ => rfl⟩
theorem pp_9_14 : PP [97, 98, 97] [98, 98, 98] := ⟨fun _ => ⟨_, rfl⟩, fun _ => ⟨_, rfl⟩, fun _ _ _ _ _ _ _ _ _ _ _ _ _ _ => ⟨_, rfl⟩, fun _ _ _ _ _ _ _ _ _ _ _ _ _ _ _ => rfl⟩
theorem pp_9_15 : PP [97, 98, 97] [97, 97, 97, 97] := ⟨fun _ => ⟨_, rfl⟩, fun _ => ⟨_, rfl⟩, fun _ _ _ _ _ _ _ _ _ _ _ _ _ _ => ⟨_, rfl⟩, fun _ _ _ _ _ _ _ _ _ _ _ _ _ _ _ => rfl⟩
theorem pp_9_16 : PP [97, 98, 97] [97, 97, 97, 98] := ⟨fun _ => ⟨_, rfl⟩, fun _ => ⟨_, rfl⟩, fun _ _ _ _ _ _ _ _ _ _ _ _ _ _ => ⟨_, rfl⟩, fun _ _ _ _ _ _ _ _ _ _ _ _ _ _ _ => rfl⟩
theorem pp_9_17 : PP [97, 98, 97] [97, 97, 98, 97] := ⟨fun _ => ⟨_, rfl⟩, fun _ => ⟨_, rfl⟩, fun _ _ _ _ _ _ _ _ _ _ _ _ _ _ => ⟨_, rfl⟩, fun _ _ _ _ _ _ _ _ _ _ _ _ _ _ _ => rfl⟩
theorem pp_9_18 : PP [97, 98, 97] [97, 97, 98, 98] := ⟨fun _ => ⟨_, rfl⟩, fun _ => ⟨_, rfl⟩, fun _ _ _ _ _ _ _ _ _ _ _ _ _ _ => ⟨_, rfl⟩, fun _ _ _ _ _ _ _ _ _ _ _ _ _ _ _ => rfl⟩
theorem pp_9_19 : PP [97, 98, 97] [97, 98, 97, 97] := ⟨fun _ => ⟨_, rfl⟩, fun _ => ⟨_, rfl⟩, fun _ _ _ _ _ _ _ _ _ _ _ _ _ _ => ⟨_, rfl⟩, fun _ _ _ _ _ _ _ _ _ _ _ _ _ _ _ => rfl⟩
theorem pp_9_20 : PP [97, 98, 97] [97, 98, 97, 98] := ⟨fun _ => ⟨_, rfl⟩, fun _ => ⟨_, rfl⟩, fun _ _ _ _ _ _ _ _ _ _ _ _ _ _ => ⟨_, rfl⟩, fun _ _ _ _ _ _ _ _ _ _ _ _ _ _ _ => rfl⟩
theorem pp_9_21 : PP [97, 98, 97] [97, 98, 98, 97] := ⟨fun _ => ⟨_, rfl⟩, fun _ => ⟨_, rfl⟩, fun _ _ _ _ _ _ _ _ _ _ _ _ _ _ => ⟨_, rfl⟩, fun _ _ _ _ _ _ _ _ _ _ _ _ _ _ _ => rfl⟩
theorem pp_9_22 : PP [97, 98, 97] [97, 98, 98, 98] := ⟨fun _ => ⟨_, rfl⟩, fun _ => ⟨_, rfl⟩, fun _ _ _ _ _ _ _ _ _ _ _ _ _ _ => ⟨_, rfl⟩, fun _ _ _ _ _ _ _ _ _ _ _ _ _ _ _ => rfl⟩
theorem pp_9_23 : PP [97, 98, 97] [98, 97, 97, 97] := ⟨fun _ => ⟨_, rfl⟩, fun _ => ⟨_, rfl⟩, fun _ _ _ _ _ _ _ _ _ _ _ _ _ _ => ⟨_, rfl⟩, fun _ _ _ _ _ _ _ _ _ _ _ _ _ _ _ => rfl⟩
theorem pp_9_24 : PP [97, 98, 97] [98, 97, 97, 98] := ⟨fun _ => ⟨_, rfl⟩, fun _ => ⟨_, rfl⟩, fun _ _ _ _ _ _ _ _ _ _ _ _ _ _ => ⟨_, rfl⟩, fun _ _ _ _ _ _ _ _ _ _ _ _ _ _ _ => rfl⟩
theorem pp_9_25 : PP [97, 98, 97] [98, 97, 98, 97] := ⟨fun _ => ⟨_, rfl⟩, fun _ => ⟨_, rfl⟩, fun _ _ _ _ _ _ _ _ _ _ _ _ _ _ => ⟨_, rfl⟩, fun _ _ _ _ _ _ _ _ _ _ _ _ _ _ _ => rfl⟩
theorem pp_9_26 : PP [97, 98, 97] [98, 97, 98, 98] := ⟨fun _ => ⟨_, rfl⟩, fun _ => ⟨_, rfl⟩, fun _ _ _ _ _ _ _ _ _ _ _ _ _ _ => ⟨_, rfl⟩, fun _ _ _ _ _ _ _ _ _ _ _ _ _ _ _ => rfl⟩
theorem pp_9_27 : PP [97, 98, 97] [98, 98, 97, 97] := ⟨fun _ => ⟨_, rfl⟩, fun _ => ⟨_, rfl⟩, fun _ _ _ _ _ _ _ _ _ _ _ _ _ _ => ⟨_, rfl⟩, fun _ _ _ _ _ _ _ _ _ _ _ _ _ _ _ => rfl⟩
theorem pp_9_28 : PP [97, 98, 97] [98, 98, 97, 98] := ⟨fun _ => ⟨_, rfl⟩, fun _ => ⟨_, rfl⟩, fun _ _ _ _ _ _ _ _ _ _ _ _ _ _ => ⟨_, rfl⟩, fun _ _ _ _ _ _ _ _ _ _ _ _ _ _ _ => rfl⟩
theorem pp_9_29 : PP [97, 98, 97] [98, 98, 98, 97] := ⟨fun _ => ⟨_, rfl⟩, fun _ => ⟨_, rfl⟩, fun _ _ _ _ _ _ _ _ _ _ _ _ _ _ => ⟨_, rfl⟩, fun _ _ _ _ _ _ _ _ _ _ _ _ _ _ _ => rfl⟩
theorem pp_9_30 : PP [97, 98, 97] [98, 98, 98, 98] := ⟨fun _ => ⟨_, rfl⟩, fun _ => ⟨_, rfl⟩, fun _ _ _ _ _ _ _ _ _ _ _ _ _ _ => ⟨_, rfl⟩, fun _ _ _ _ _ _ _ _ _ _ _ _ _ _ _ => rfl⟩
theorem pp_10_0 : PP [97, 98, 98] [] := ⟨fun _ => ⟨_, rfl⟩, fun _ => ⟨_, rfl⟩, fun _ _ _ _ _ _ _ _ _ _ _ _ _ _ => ⟨_, rfl⟩, fun _ _ _ _ _ _ _ _ _ _ _ _ _ _ _ => rfl⟩
theorem pp_10_1 : PP [97, 98, 98] [97] := ⟨fun _ => ⟨_, rfl⟩, fun _ => ⟨_, rfl⟩, fun _ _ _ _ _ _ _ _ _ _ _ _ _ _ => ⟨_, rfl⟩, fun _ _ _ _ _ _ _ _ _ _ _ _ _ _ _ => rfl⟩
theorem pp_10_2 : PP [97, 98, 98] [98] := ⟨fun _ => ⟨_, rfl⟩, fun _ => ⟨_, rfl⟩, fun _ _ _ _ _ _ _ _ _ _ _ _ _ _ => ⟨_, rfl⟩, fun _ _ _ _ _ _ _ _ _ _ _ _ _ _ _ => rfl⟩
theorem pp_10_3 : PP [97, 98, 98] [97, 97] := ⟨fun _ => ⟨_, rfl⟩, fun _ => ⟨_, rfl⟩, fun _ _ _ _ _ _ _ _ _ _ _ _ _ _ => ⟨_, rfl⟩, fun _ _ _ _ _ _ _ _ _ _ _ _ _ _ _ => rfl⟩
theorem pp_10_4 : PP [97, 98, 98] [97, 98] := ⟨fun _ => ⟨_, rfl⟩, fun _ => ⟨_, rfl⟩, fun _ _ _ _ _ _ _ _ _ _ _ _ _ _ => ⟨_, rfl⟩, fun _ _ _ _ _ _ _ _ _ _ _ _ _ _ _ => rfl⟩
theorem pp_10_5 : PP [97, 98, 98] [98, 97] := ⟨fun _ => ⟨_, rfl⟩, fun _ => ⟨_, rfl⟩, fun _ _ _ _ _ _ _ _ _ _ _ _ _ _ => ⟨_, rfl⟩, fun _ _ _ _ _ _ _ _ _ _ _ _ _ _ _ => rfl⟩
theorem pp_10_6 : PP [97, 98, 98] [98, 98] := ⟨fun _ => ⟨_, rfl⟩, fun _ => ⟨_, rfl⟩, fun _ _ _ _ _ _ _ _ _ _ _ _ _ _ => ⟨_, rfl⟩, fun _ _ _ _ _ _ _ _ _ _ _ _ _ _ _ => rfl⟩
theorem pp_10_7 : PP [97, 98, 98] [97, 97, 97] := ⟨fun _ => ⟨_, rfl⟩, fun _ => ⟨_, rfl⟩, fun _ _ _ _ _ _ _ _ _ _ _ _ _ _ => ⟨_, rfl⟩, fun _ _ _ _ _ _ _ _ _ _ _ _ _ _ _ => rfl⟩
theorem pp_10_8 : PP [97, 98, 98] [97, 97, 98] := ⟨fun _ => ⟨_, rfl⟩, fun _ => ⟨_, rfl⟩, fun _ _ _ _ _ _ _ _ _ _ _ _ _ _ => ⟨_, rfl⟩, fun _ _ _ _ _ _ _ _ _ _ _ _ _ _ _ => rfl⟩
theorem pp_10_9 : PP [97, 98, 98] [97, 98, 97] := ⟨fun _ => ⟨_, rfl⟩, fun _ => ⟨_, rfl⟩, fun _ _ _ _ _ _ _ _ _ _ _ _ _ _ => ⟨_, rfl⟩, fun _ _ _ _ _ _ _ _ _ _ _ _ _ _ _ => rfl⟩
theorem pp_10_10 : PP [97, 98, 98] [97, 98, 98] := ⟨fun _ => ⟨_, rfl⟩, fun _ => ⟨_, rfl⟩, fun _ _ _ _ _ _ _ _ _ _ _ _ _ _ => ⟨_, rfl⟩, fun _ _ _ _ _ _ _ _ _ _ _ _ _ _ _ => rfl⟩
theorem pp_10_11 : PP [97, 98, 98] [98, 97, 97] := ⟨fun _ => ⟨_, rfl⟩, fun _ => ⟨_, rfl⟩, fun _ _ _ _ _ _ _ _ _ _ _ _ _ _ => ⟨_, rfl⟩, fun _ _ _ _ _ _ _ _ _ _ _ _ _ _ _ => rfl⟩
theorem pp_10_12 : PP [97, 98, 98] [98, 97, 98] := ⟨fun _ => ⟨_, rfl⟩, fun _ => ⟨_, rfl⟩, fun _ _ _ _ _ _ _ _ _ _ _ _ _ _ => ⟨_, rfl⟩, fun _ _ _ _ _ _ _ _ _ _ _ _ _ _ _ => rfl⟩
theorem pp_10_13 : PP [97, 98, 98] [98, 98, 97] := ⟨fun _ => ⟨_, rfl⟩, fun _ => ⟨_, rfl⟩, fun _ _ _ _ _ _ _ _ _ _ _ _ _ _ => ⟨_, rfl⟩, fun _ _ _ _ _ _ _ _ _ _ _ _ _ _ _ => rfl⟩
theorem pp_10_14 : PP [97, 98, 98] [98, 98, 98] := ⟨fun _ => ⟨_, rfl⟩, fun _ => ⟨_, rfl⟩, fun _ _ _ _ _ _ _ _ _ _ _ _ _ _ => ⟨_, rfl⟩, fun _ _ _ _ _ _ _ _ _ _ _ _ _ _ _ => rfl⟩
theorem pp_10_15 : PP [97, 98, 98] [97, 97, 97, 97] := ⟨fun _ => ⟨_, rfl⟩, fun _ => ⟨_, rfl⟩, fun _ _ _ _ _ _ _ _ _ _ _ _ _ _ => ⟨_, rfl⟩, fun _ _ _ _ _ _ _ _ _ _ _ _ _ _ _ => rfl⟩
theorem pp_10_16 : PP [97, 98, 98] [97, 97, 97, 98] := ⟨fun _ => ⟨_, rfl⟩, fun _ => ⟨_, rfl⟩, fun _ _ _ _ _ _ _ _ _ _ _ _ _ _ => ⟨_, rfl⟩, fun _ _ _ _ _ _ _ _ _ _ _ _ _ _ _ => rfl⟩
theorem pp_10_17 : PP [97, 98, 98] [97, 97, 98, 97] := ⟨fun _ => ⟨_, rfl⟩, fun _ => ⟨_, rfl⟩, fun _ _ _ _ _ _ _ _ _ _ _ _ _ _ => ⟨_, rfl⟩, fun _ _ _ _ _ _ _ _ _ _ _ _ _ _ _ => rfl⟩
theorem pp_10_18 : PP [97, 98, 98] [97, 97, 98, 98] := ⟨fun _ => ⟨_, rfl⟩, fun _ => ⟨_, rfl⟩, fun _ _ _ _ _ _ _ _ _ _ _ _ _ _ => ⟨_, rfl⟩, fun _ _ _ _ _ _ _ _ _ _ _ _ _ _ _ => rfl⟩
theorem pp_10_19 : PP [97, 98, 98] [97, 98, 97, 97] := ⟨fun _ => ⟨_, rfl⟩, fun _ => ⟨_, rfl⟩, fun _ _ _ _ _ _ _ _ _ _ _ _ _ _ => ⟨_, rfl⟩, fun _ _ _ _ _ _ _ _ _ _ _ _ _ _ _ => rfl⟩
theorem pp_10_20 : PP [97, 98, 98] [97, 98, 97, 98] := ⟨fun _ => ⟨_, rfl⟩, fun _ => ⟨_, rfl⟩, fun _ _ _ _ _ _ _ _ _ _ _ _ _ _ => ⟨_, rfl⟩, fun _ _ _ _ _ _ _ _ _ _ _ _ _ _ _ => rfl⟩
theorem pp_10_21 : PP [97, 98, 98] [97, 98, 98, 97] := ⟨fun _ => ⟨_, rfl⟩, fun _ => ⟨_, rfl⟩, fun _ _ _ _ _ _ _ _ _ _ _ _ _ _ => ⟨_, rfl⟩, fun _ _ _ _ _ _ _ _ _ _ _ _ _ _ _ => rfl⟩
theorem pp_10_22 : PP [97, 98, 98] [97, 98, 98, 98] := ⟨fun _ => ⟨_, rfl⟩, fun _ => ⟨_, rfl⟩, fun _ _ _ _ _ _ _ _ _ _ _ _ _ _ => ⟨_, rfl⟩, fun _ _ _ _ _ _ _ _ _ _ _ _ _ _ _ => rfl⟩
theorem pp_10_23 : PP [97, 98, 98] [98, 97, 97, 97] := ⟨fun _ => ⟨_, rfl⟩, fun _ => ⟨_, rfl⟩, fun _ _ _ _ _ _ _ _ _ _ _ _ _ _ => ⟨_, rfl⟩, fun _ _ _ _ _ _ _ _ _ _ _ _ _ _ _ => rfl⟩
theorem pp_10_24 : PP [97, 98, 98] [98, 97, 97, 98] := ⟨fun _ => ⟨_, rfl⟩, fun _ => ⟨_, rfl⟩, fun _ _ _ _ _ _ _ _ _ _ _ _ _ _ => ⟨_, rfl⟩, fun _ _ _ _ _ _ _ _ _ _ _ _ _ _ _ => rfl⟩
theorem pp_10_25 : PP [97, 98, 98] [98, 97, 98, 97] := ⟨fun _ => ⟨_, rfl⟩, fun _ => ⟨_, rfl⟩, fun _ _ _ _ _ _ _ _ _ _ _ _ _ _ => ⟨_, rfl⟩, fun _ _ _ _ _ _ _ _ _ _ _ _ _ _ _ => rfl⟩
theorem pp_10_26 : PP [97, 98, 98] [98, 97, 98, 98] := ⟨fun _ => ⟨_, rfl⟩, fun _ => ⟨_, rfl⟩, fun _ _ _ _ _ _ _ _ _ _ _ _ _ _ => ⟨_, rfl⟩, fun _ _ _ _ _ _ _ _ _ _ _ _ _ _ _ => rfl⟩
theorem pp_10_27 : PP [97, 98, 98] [98, 98, 97, 97] := ⟨fun _ => ⟨_, rfl⟩, fun _ => ⟨_, rfl⟩, fun _ _ _ _ _ _ _ _ _ _ _ _ _ _ => ⟨_, rfl⟩, fun _ _ _ _ _ _ _ _ _ _ _ _ _ _ _ => rfl⟩
theorem pp_10_28 : PP [97, 98, 98] [98, 98, 97, 98] := ⟨fun _ => ⟨_, rfl⟩, fun _ => ⟨_, rfl⟩, fun _ _ _ _ _ _ _ _ _ _ _ _ _ _ => ⟨_, rfl⟩, fun _ _ _ _ _ _ _ _ _ _ _ _ _ _ _ => rfl⟩
theorem pp_10_29 : PP [97, 98, 98] [98, 98, 98, 97] := ⟨fun _ => ⟨_, rfl⟩, fun _ => ⟨_, rfl⟩, fun _ _ _ _ _ _ _ _ _ _ _ _ _ _ => ⟨_, rfl⟩, fun _ _ _ _ _ _ _ _ _ _ _ _ _ _ _ => rfl⟩
theorem pp_10_30 : PP [97, 98, 98] [98, 98, 98, 98] := ⟨fun _ => ⟨_, rfl⟩, fun _ => ⟨_, rfl⟩, fun _ _ _ _ _ _ _ _ _ _ _ _ _ _ => ⟨_, rfl⟩, fun _ _ _ _ _ _ _ _ _ _ _ _ _ _ _ => rfl⟩
theorem pp_11_0 : PP [98, 97, 97] [] := ⟨fun _ => ⟨_, rfl⟩, fun _ => ⟨_, rfl⟩, fun _ _ _ _ _ _ _ _ _ _ _ _ _ _ => ⟨_, rfl⟩, fun _ _ _ _ _ _ _ _ _ _ _ _ _ _ _ => rfl⟩
theorem pp_11_1 : PP [98, 97, 97] [97] := ⟨fun _ => ⟨_, rfl⟩, fun _ => ⟨_, rfl⟩, fun _ _ _ _ _ _ _ _ _ _ _ _ _ _ => ⟨_, rfl⟩, fun _ _ _ _ _ _ _ _ _ _ _ _ _ _ _ => rfl⟩
theorem pp_11_2 : PP [98, 97, 97] [98] := ⟨fun _ => ⟨_, rfl⟩, fun _ => ⟨_, rfl⟩, fun _ _ _ _ _ _ _ _ _ _ _ _ _ _ => ⟨_, rfl⟩, fun _ _ _ _ _ _ _ _ _ _ _ _ _ _ _ => rfl⟩
theorem pp_11_3 : PP [98, 97, 97] [97, 97] := ⟨fun _ => ⟨_, rfl⟩, fun _ => ⟨_, rfl⟩, fun _ _ _ _ _ _ _ _ _ _ _ _ _ _ => ⟨_, rfl⟩, fun _ _ _ _ _ _ _ _ _ _ _ _ _ _ _ => rfl⟩
theorem pp_11_4 : PP [98, 97, 97] [97, 98] := ⟨fun _ => ⟨_, rfl⟩, fun _ => ⟨_, rfl⟩, fun _ _ _ _ _ _ _ _ _ _ _ _ _ _ => ⟨_, rfl⟩, fun _ _ _ _ _ _ _ _ _ _ _ _ _ _ _ => rfl⟩
theorem pp_11_5 : PP [98, 97, 97] [98, 97] := ⟨fun _ => ⟨_, rfl⟩, fun _ => ⟨_, rfl⟩, fun _ _ _ _ _ _ _ _ _ _ _ _ _ _ => ⟨_, rfl⟩, fun _ _ _ _ _ _ _ _ _ _ _ _ _ _ _ => rfl⟩
theorem pp_11_6 : PP [98, 97, 97] [98, 98] := ⟨fun _ => ⟨_, rfl⟩, fun _ => ⟨_, rfl⟩, fun _ _ _ _ _ _ _ _ _ _ _ _ _ _ => ⟨_, rfl⟩, fun _ _ _ _ _ _ _ _ _ _ _ _ _ _ _ => rfl⟩
theorem pp_11_7 : PP [98, 97, 97] [97, 97, 97] := ⟨fun _ => ⟨_, rfl⟩, fun _ => ⟨_, rfl⟩, fun _ _ _ _ _ _ _ _ _ _ _ _ _ _ => ⟨_, rfl⟩, fun _ _ _ _ _ _ _ _ _ _ _ _ _ _ _ => rfl⟩
theorem pp_11_8 : PP [98, 97, 97] [97, 97, 98] := ⟨fun _ => ⟨_, rfl⟩, fun _ => ⟨_, rfl⟩, fun _ _ _ _ _ _ _ _ _ _ _ _ _ _ => ⟨_, rfl⟩, fun _ _ _ _ _ _ _ _ _ _ _ _ _ _ _ => rfl⟩
theorem pp_11_9 : PP [98, 97, 97] [97, 98, 97] := ⟨fun _ => ⟨_, rfl⟩, fun _ => ⟨_, rfl⟩, fun _ _ _ _ _ _ _ _ _ _ _ _ _ _ => ⟨_, rfl⟩, fun _ _ _ _ _ _ _ _ _ _ _ _ _ _ _ => rfl⟩
theorem pp_11_10 : PP [98, 97, 97] [97, 98, 98] := ⟨fun _ => ⟨_, rfl⟩, fun _ => ⟨_, rfl⟩, fun _ _ _ _ _ _ _ _ _ _ _ _ _ _ => ⟨_, rfl⟩, fun _ _ _ _ _ _ _ _ _ _ _ _ _ _ _ => rfl⟩
theorem pp_11_11 : PP [98, 97, 97] [98, 97, 97] := ⟨fun _ => ⟨_, rfl⟩, fun _ => ⟨_, rfl⟩, fun _ _ _ _ _ _ _ _ _ _ _ _ _ _ => ⟨_, rfl⟩, fun _ _ _ _ _ _ _ _ _ _ _ _ _ _ _ => rfl⟩
theorem pp_11_12 : PP [98, 97, 97] [98, 97, 98] := ⟨fun _ => ⟨_, rfl⟩, fun _ => ⟨_, rfl⟩, fun _ _ _ _ _ _ _ _ _ _ _ _ _ _ => ⟨_, rfl⟩, fun _ _ _ _ _ _ _ _ _ _ _ _ _ _ _ => rfl⟩
theorem pp_11_13 : PP [98, 97, 97] [98, 98, 97] := ⟨fun _ => ⟨_, rfl⟩, fun _ => ⟨_, rfl⟩, fun _ _ _ _ _ _ _ _ _ _ _ _ _ _ => ⟨_, rfl⟩, fun _ _ _ _ _ _ _ _ _ _ _ _ _ _ _ => rfl⟩
theorem pp_11_14 : PP [98, 97, 97] [98, 98, 98] := ⟨fun _ => ⟨_, rfl⟩, fun _ => ⟨_, rfl⟩, fun _ _ _ _ _ _ _ _ _ _ _ _ _ _ => ⟨_, rfl⟩, fun _ _ _ _ _ _ _ _ _ _ _ _ _ _ _ => rfl⟩
theorem pp_11_15 : PP [98, 97, 97] [97, 97, 97, 97] := ⟨fun _ => ⟨_, rfl⟩, fun _ => ⟨_, rfl⟩, fun _ _ _ _ _ _ _ _ _ _ _ _ _ _ => ⟨_, rfl⟩, fun _ _ _ _ _ _ _ _ _ _ _ _ _ _ _ => rfl⟩
theorem pp_11_16 : PP [98, 97, 97] [97, 97, 97, 98] := ⟨fun _ => ⟨_, rfl⟩, fun _ => ⟨_, rfl⟩, fun _ _ _ _ _ _ _ _ _ _ _ _ _ _ => ⟨_, rfl⟩, fun _ _ _ _ _ _ _ _ _ _ _ _ _ _ _ => rfl⟩
theorem pp_11_17 : PP [98, 97, 97] [97, 97, 98, 97] := ⟨fun _ => ⟨_, rfl⟩, fun _ => ⟨_, rfl⟩, fun _ _ _ _ _ _ _ _ _ _ _ _ _ _ => ⟨_, rfl⟩, fun _ _ _ _ _ _ _ _ _ _ _ _ _ _ _ => rfl⟩
theorem pp_11_18 : PP [98, 97, 97] [97, 97, 98, 98] := ⟨fun _ => ⟨_, rfl⟩, fun _ => ⟨_, rfl⟩, fun _ _ _ _ _ _ _ _ _ _ _ _ _ _ => ⟨_, rfl⟩, fun _ _ _ _ _ _ _ _ _ _ _ _ _ _ _ => rfl⟩
theorem pp_11_19 : PP [98, 97, 97] [97, 98, 97, 97] := ⟨fun _ => ⟨_, rfl⟩, fun _ => ⟨_, rfl⟩, fun _ _ _ _ _ _ _ _ _ _ _ _ _ _ => ⟨_, rfl⟩, fun _ _ _ _ _ _ _ _ _ _ _ _ _ _ _ => rfl⟩
theorem pp_11_20 : PP [98, 97, 97] [97, 98, 97, 98] := ⟨fun _ => ⟨_, rfl⟩, fun _ => ⟨_, rfl⟩, fun _ _ _ _ _ _ _ _ _ _ _ _ _ _ => ⟨_, rfl⟩, fun _ _ _ _ _ _ _ _ _ _ _ _ _ _ _ => rfl⟩
theorem pp_11_21 : PP [98, 97, 97] [97, 98, 98, 97] := ⟨fun _ => ⟨_, rfl⟩, fun _ => ⟨_, rfl⟩, fun _ _ _ _ _ _ _ _ _ _ _ _ _ _ => ⟨_, rfl⟩, fun _ _ _ _ _ _ _ _ _ _ _ _ _ _ _ => rfl⟩
theorem pp_11_22 : PP [98, 97, 97] [97, 98, 98, 98] := ⟨fun _ => ⟨_, rfl⟩, fun _ => ⟨_, rfl⟩, fun _ _ _ _ _ _ _ _ _ _ _ _ _ _ => ⟨_, rfl⟩, fun _ _ _ _ _ _ _ _ _ _ _ _ _ _ _ => rfl⟩
theorem pp_11_23 : PP [98, 97, 97] [98, 97, 97, 97] := ⟨fun _ => ⟨_, rfl⟩, fun _ => ⟨_, rfl⟩, fun _ _ _ _ _ _ _ _ _ _ _ _ _ _ => ⟨_, rfl⟩, fun _ _ _ _ _ _ _ _ _ _ _ _ _ _ _ => rfl⟩
theorem pp_11_24 : PP [98, 97, 97] [98, 97, 97, 98] := ⟨fun _ => ⟨_, rfl⟩, fun _ => ⟨_, rfl⟩, fun _ _ _ _ _ _ _ _ _ _ _ _ _ _ => ⟨_, rfl⟩, fun _ _ _ _ _ _ _ _ _ _ _ _ _ _ _ => rfl⟩
theorem pp_11_25 : PP [98, 97, 97] [98, 97, 98, 97] := ⟨fun _ => ⟨_, rfl⟩, fun _ => ⟨_, rfl⟩, fun _ _ _ _ _ _ _ _ _ _ _ _ _ _ => ⟨_, rfl⟩, fun _ _ _ _ _ _ _ _ _ _ _ _ _ _ _ => rfl⟩
theorem pp_11_26 : PP [98, 97, 97] [98, 97, 98, 98] := ⟨fun _ => ⟨_, rfl⟩, fun _ => ⟨_, rfl⟩, fun _ _ _ _ _ _ _ _ _ _ _ _ _ _ => ⟨_, rfl⟩, fun _ _ _ _ _ _ _ _ _ _ _ _ _ _ _ => rfl⟩
theorem pp_11_27 : PP [98, 97, 97] [98, 98, 97, 97] := ⟨fun _ => ⟨_, rfl⟩, fun _ => ⟨_, rfl⟩, fun _ _ _ _ _ _ _ _ _ _ _ _ _ _ => ⟨_, rfl⟩, fun _ _ _ _ _ _ _ _ _ _ _ _ _ _ _ => rfl⟩
theorem pp_11_28 : PP [98, 97, 97] [98, 98, 97, 98] := ⟨fun _ => ⟨_, rfl⟩, fun _ => ⟨_, rfl⟩, fun _ _ _ _ _ _ _ _ _ _ _ _ _ _ => ⟨_, rfl⟩, fun _ _ _ _ _ _ _ _ _ _ _ _ _ _ _ => rfl⟩
theorem pp_11_29 : PP [98, 97, 97] [98, 98, 98, 97] := ⟨fun _ => ⟨_, rfl⟩, fun _ => ⟨_, rfl⟩, fun _ _ _ _ _ _ _ _ _ _ _ _ _ _ => ⟨_, rfl⟩, fun _ _ _ _ _ _ _ _ _ _ _ _ _ _ _ => rfl⟩
theorem pp_11_30 : PP [98, 97, 97] [98, 98, 98, 98] := ⟨fun _ => ⟨_, rfl⟩, fun _ => ⟨_, rfl⟩, fun _ _ _ _ _ _ _ _ _ _ _ _ _ _ => ⟨_, rfl⟩, fun _ _ _ _ _ _ _ _ _ _ _ _ _ _ _ => rfl⟩
theorem pp_12_0 : PP [98, 97, 98] [] := ⟨fun _ => ⟨_, rfl⟩, fun _ => ⟨_, rfl⟩, fun _ _ _ _ _ _ _ _ _ _ _ _ _ _ => ⟨_, rfl⟩, fun _ _ _ _ _ _ _ _ _ _ _ _ _ _ _ => rfl⟩
theorem pp_12_1 : PP [98, 97, 98] [97] := ⟨fun _ => ⟨_, rfl⟩, fun _ => ⟨_, rfl⟩, fun _ _ _ _ _ _ _ _ _ _ _ _ _ _ => ⟨_, rfl⟩, fun _ _ _ _ _ _ _ _ _ _ _ _ _ _ _ => rfl⟩
theorem pp_12_2 : PP [98, 97, 98] [98] := ⟨fun _ => ⟨_, rfl⟩, fun _ => ⟨_, rfl⟩, fun _ _ _ _ _ _ _ _ _ _ _ _ _ _ => ⟨_, rfl⟩, fun _ _ _ _ _ _ _ _ _ _ _ _ _ _ _ => rfl⟩
theorem pp_12_3 : PP [98, 97, 98] [97, 97] := ⟨fun _ => ⟨_, rfl⟩, fun _ => ⟨_, rfl⟩, fun _ _ _ _ _ _ _ _ _ _ _ _ _ _ => ⟨_, rfl⟩, fun _ _ _ _ _ _ _ _ _ _ _ _ _ _ _ => rfl⟩
theorem pp_12_4 : PP [98, 97, 98] [97, 98] := ⟨fun _ => ⟨_, rfl⟩, fun _ => ⟨_, rfl⟩, fun _ _ _ _ _ _ _ _ _ _ _ _ _ _ => ⟨_, rfl⟩, fun _ _ _ _ _ _ _ _ _ _ _ _ _ _ _ => rfl⟩
theorem pp_12_5 : PP [98, 97, 98] [98, 97] := ⟨fun _ => ⟨_, rfl⟩, fun _ => ⟨_, rfl⟩, fun _ _ _ _ _ _ _ _ _ _ _ _ _ _ => ⟨_, rfl⟩, fun _ _ _ _ _ _ _ _ _ _ _ _ _ _ _ => rfl⟩
theorem pp_12_6 : PP [98, 97, 98] [98, 98] := ⟨fun _ => ⟨_, rfl⟩, fun _ => ⟨_, rfl⟩, fun _ _ _ _ _ _ _ _ _ _ _ _ _ _ => ⟨_, rfl⟩, fun _ _ _ _ _ _ _ _ _ _ _ _ _ _ _ => rfl⟩
theorem pp_12_7 : PP [98, 97, 98] [97, 97, 97] := ⟨fun _ => ⟨_, rfl⟩, fun _ => ⟨_, rfl⟩, fun _ _ _ _ _ _ _ _ _ _ _ _ _ _ => ⟨_, rfl⟩, fun _ _ _ _ _ _ _ _ _ _ _ _ _ _ _ => rfl⟩
theorem pp_12_8 : PP [98, 97, 98] [97, 97, 98] := ⟨fun _ => ⟨_, rfl⟩, fun _ => ⟨_, rfl⟩, fun _ _ _ _ _ _ _ _ _ _ _ _ _ _ => ⟨_, rfl⟩, fun _ _ _ _ _ _ _ _ _ _ _ _ _ _ _ => rfl⟩
theorem pp_12_9 : PP [98, 97, 98] [97, 98, 97] := ⟨fun _ => ⟨_, rfl⟩, fun _ => ⟨_, rfl⟩, fun _ _ _ _ _ _ _ _ _ _ _ _ _ _ => ⟨_, rfl⟩, fun _ _ _ _ _ _ _ _ _ _ _ _ _ _ _ => rfl⟩
theorem pp_12_10 : PP [98, 97, 98] [97, 98, 98] := ⟨fun _ => ⟨_, rfl⟩, fun _ => ⟨_, rfl⟩, fun _ _ _ _ _ _ _ _ _ _ _ _ _ _ => ⟨_, rfl⟩, fun _ _ _ _ _ _ _ _ _ _ _ _ _ _ _ => rfl⟩
theorem pp_12_11 : PP [98, 97, 98] [98, 97, 97] := ⟨fun _ => ⟨_, rfl⟩, fun _ => ⟨_, rfl⟩, fun _ _ _ _ _ _ _ _ _ _ _ _ _ _ => ⟨_, rfl⟩, fun _ _ _ _ _ _ _ _ _ _ _ _ _ _ _ => rfl⟩
theorem pp_12_12 : PP [98, 97, 98] [98, 97, 98] := ⟨fun _ => ⟨_, rfl⟩, fun _ => ⟨_, rfl⟩, fun _ _ _ _ _ _ _ _ _ _ _ _ _ _ => ⟨_, rfl⟩, fun _ _ _ _ _ _ _ _ _ _ _ _ _ _ _ => rfl⟩
theorem pp_12_13 : PP [98, 97, 98] [98, 98, 97] := ⟨fun _ => ⟨_, rfl⟩, fun _ => ⟨_, rfl⟩, fun _ _ _ _ _ _ _ _ _ _ _ _ _ _ => ⟨_, rfl⟩, fun _ _ _ _ _ _ _ _ _ _ _ _ _ _ _ => rfl⟩
theorem pp_12_14 : PP [98, 97, 98] [98, 98, 98] := ⟨fun _ => ⟨_, rfl⟩, fun _ => ⟨_, rfl⟩, fun _ _ _ _ _ _ _ _ _ _ _ _ _ _ => ⟨_, rfl⟩, fun _ _ _ _ _ _ _ _ _ _ _ _ _ _ _ => rfl⟩
theorem pp_12_15 : PP [98, 97, 98] [97, 97, 97, 97] := ⟨fun _ => ⟨_, rfl⟩, fun _ => ⟨_, rfl⟩, fun _ _ _ _ _ _ _ _ _ _ _ _ _ _ => ⟨_, rfl⟩, fun _ _ _ _ _ _ _ _ _ _ _ _ _ _ _ => rfl⟩
theorem pp_12_16 : PP [98, 97, 98] [97, 97, 97, 98] := ⟨fun _ => ⟨_, rfl⟩, fun _ => ⟨_, rfl⟩, fun _ _ _ _ _ _ _ _ _ _ _ _ _ _ => ⟨_, rfl⟩, fun _ _ _ _ _ _ _ _ _ _ _ _ _ _ _ => rfl⟩
theorem pp_12_17 : PP [98, 97, 98] [97, 97, 98, 97] := ⟨fun _ => ⟨_, rfl⟩, fun _ => ⟨_, rfl⟩, fun _ _ _ _ _ _ _ _ _ _ _ _ _ _ => ⟨_, rfl⟩, fun _ _ _ _ _ _ _ _ _ _ _ _ _ _ _ => rfl⟩
theorem pp_12_18 : PP [98, 97, 98] [97, 97, 98, 98] := ⟨fun _ => ⟨_, rfl⟩, fun _ => ⟨_, rfl⟩, fun _ _ _ _ _ _ _ _ _ _ _ _ _ _ => ⟨_, rfl⟩, fun _ _ _ _ _ _ _ _ _ _ _ _ _ _ _ => rfl⟩
theorem pp_12_19 : PP [98, 97, 98] [97, 98, 97, 97] := ⟨fun _ => ⟨_, rfl⟩, fun _ => ⟨_, rfl⟩, fun _ _ _ _ _ _ _ _ _ _ _ _ _ _ => ⟨_, rfl⟩, fun _ _ _ _ _ _ _ _ _ _ _ _ _ _ _ => rfl⟩
theorem pp_12_20 : PP [98, 97, 98] [97, 98, 97, 98] := ⟨fun _ => ⟨_, rfl⟩, fun _ => ⟨_, rfl⟩, fun _ _ _ _ _ _ _ _ _ _ _ _ _ _ => ⟨_, rfl⟩, fun _ _ _ _ _ _ _ _ _ _ _ _ _ _ _ => rfl⟩
theorem pp_12_21 : PP [98, 97, 98] [97, 98, 98, 97] := ⟨fun _ => ⟨_, rfl⟩, fun _ => ⟨_, rfl⟩, fun _ _ _ _ _ _ _ _ _ _ _ _ _ _ => ⟨_, rfl⟩, fun _ _ _ _ _ _ _ _ _ _ _ _ _ _ _ => rfl⟩
theorem pp_12_22 : PP [98, 97, 98] [97, 98, 98, 98] := ⟨fun _ => ⟨_, rfl⟩, fun _ => ⟨_, rfl⟩, fun _ _ _ _ _ _ _ _ _ _ _ _ _ _ => ⟨_, rfl⟩, fun _ _ _ _ _ _ _ _ _ _ _ _ _ _ _ => rfl⟩
theorem pp_12_23 : PP [98, 97, 98] [98, 97, 97, 97] := ⟨fun _ => ⟨_, rfl⟩, fun _ => ⟨_, rfl⟩, fun _ _ _ _ _ _ _ _ _ _ _ _ _ _ => ⟨_, rfl⟩, fun _ _ _ _ _ _ _ _ _ _ _ _ _ _ _ => rfl⟩
theorem pp_12_24 : PP [98, 97, 98] [98, 97, 97, 98] := ⟨fun _ => ⟨_, rfl⟩, fun _ => ⟨_, rfl⟩, fun _ _ _ _ _ _ _ _ _ _ _ _ _ _ => ⟨_, rfl⟩, fun _ _ _ _ _ _ _ _ _ _ _ _ _ _ _ => rfl⟩
theorem pp_12_25 : PP [98, 97, 98] [98, 97, 98, 97] := ⟨fun _ => ⟨_, rfl⟩, fun _ => ⟨_, rfl⟩, fun _ _ _ _ _ _ _ _ _ _ _ _ _ _ => ⟨_, rfl⟩, fun _ _ _ _ _ _ _ _ _ _ _ _ _ _ _ => rfl⟩
theorem pp_12_26 : PP [98, 97, 98] [98, 97, 98, 98] := ⟨fun _ => ⟨_, rfl⟩, fun _ => ⟨_, rfl⟩, fun _ _ _ _ _ _ _ _ _ _ _ _ _ _ => ⟨_, rfl⟩, fun _ _ _ _ _ _ _ _ _ _ _ _ _ _ _ => rfl⟩
theorem pp_12_27 : PP [98, 97, 98] [98, 98, 97, 97] := ⟨fun _ => ⟨_, rfl⟩, fun _ => ⟨_, rfl⟩, fun _ _ _ _ _ _ _ _ _ _ _ _ _ _ => ⟨_, rfl⟩, fun _ _ _ _ _ _ _ _ _ _ _ _ _ _ _ => rfl⟩
theorem pp_12_28 : PP [98, 97, 98] [98, 98, 97, 98] := ⟨fun _ => ⟨_, rfl⟩, fun _ => ⟨_, rfl⟩, fun _ _ _ _ _ _ _ _ _ _ _ _ _ _ => ⟨_, rfl⟩, fun _ _ _ _ _ _ _ _ _ _ _ _ _ _ _ => rfl⟩
theorem pp_12_29 : PP [98, 97, 98] [98, 98, 98, 97] := ⟨fun _ => ⟨_, rfl⟩, fun _ => ⟨_, rfl⟩, fun _ _ _ _ _ _ _ _ _ _ _ _ _ _ => ⟨_, rfl⟩, fun _ _ _ _ _ _ _ _ _ _ _ _ _ _ _ => rfl⟩
theorem pp_12_30 : PP [98, 97, 98] [98, 98, 98, 98] := ⟨fun _ => ⟨_, rfl⟩, fun _ => ⟨_, rfl⟩, fun _ _ _ _ _ _ _ _ _ _ _ _ _ _ => ⟨_, rfl⟩, fun _ _ _ _ _ _ _ _ _ _ _ _ _ _ _ => rfl⟩
theorem pp_13_0 : PP [98, 98, 97] [] := ⟨fun _ => ⟨_, rfl⟩, fun _ => ⟨_, rfl⟩, fun _ _ _ _ _ _ _ _ _ _ _ _ _ _ => ⟨_, rfl⟩, fun _ _ _ _ _ _ _ _ _ _ _ _ _ _ _ => rfl⟩
theorem pp_13_1 : PP [98, 98, 97] [97] := ⟨fun _ => ⟨_, rfl⟩, fun _ => ⟨_, rfl⟩, fun _ _ _ _ _ _ _ _ _ _ _ _ _ _ => ⟨_, rfl⟩, fun _ _ _ _ _ _ _ _ _ _ _ _ _ _ _ => rfl⟩
theorem pp_13_2 : PP [98, 98, 97] [98] := ⟨fun _ => ⟨_, rfl⟩, fun _ => ⟨_, rfl⟩, fun _ _ _ _ _ _ _ _ _ _ _ _ _ _ => ⟨_, rfl⟩, fun _ _ _ _ _ _ _ _ _ _ _ _ _ _ _ => rfl⟩
theorem pp_13_3 : PP [98, 98, 97] [97, 97] := ⟨fun _ => ⟨_, rfl⟩, fun _ => ⟨_, rfl⟩, fun _ _ _ _ _ _ _ _ _ _ _ _ _ _ => ⟨_, rfl⟩, fun _ _ _ _ _ _ _ _ _ _ _ _ _ _ _ => rfl⟩
theorem pp_13_4 : PP [98, 98, 97] [97, 98] := ⟨fun _ => ⟨_, rfl⟩, fun _ => ⟨_, rfl⟩, fun _ _ _ _ _ _ _ _ _ _ _ _ _ _ => ⟨_, rfl⟩, fun _ _ _ _ _ _ _ _ _ _ _ _ _ _ _ => rfl⟩
theorem pp_13_5 : PP [98, 98, 97] [98, 97] := ⟨fun _ => ⟨_, rfl⟩, fun _ => ⟨_, rfl⟩, fun _ _ _ _ _ _ _ _ _ _ _ _ _ _ => ⟨_, rfl⟩, fun _ _ _ _ _ _ _ _ _ _ _ _ _ _ _ => rfl⟩
theorem pp_13_6 : PP [98, 98, 97] [98, 98] := ⟨fun _ => ⟨_, rfl⟩, fun _ => ⟨_, rfl⟩, fun _ _ _ _ _ _ _ _ _ _ _ _ _ _ => ⟨_, rfl⟩, fun _ _ _ _ _ _ _ _ _ _ _ _ _ _ _ => rfl⟩
theorem pp_13_7 : PP [98, 98, 97] [97, 97, 97] := ⟨fun _ => ⟨_, rfl⟩, fun _ => ⟨_, rfl⟩, fun _ _ _ _ _ _ _ _ _ _ _ _ _ _ => ⟨_, rfl⟩, fun _ _ _ _ _ _ _ _ _ _ _ _ _ _ _ => rfl⟩
theorem pp_13_8 : PP [98, 98, 97] [97, 97, 98] := ⟨fun _ => ⟨_, rfl⟩, fun _ => ⟨_, rfl⟩, fun _ _ _ _ _ _ _ _ _ _ _ _ _ _ => ⟨_, rfl⟩, fun _ _ _ _ _ _ _ _ _ _ _ _ _ _ _ => rfl⟩
theorem pp_13_9 : PP [98, 98, 97] [97, 98, 97] := ⟨fun _ => ⟨_, rfl⟩, fun _ => ⟨_, rfl⟩, fun _ _ _ _ _ _ _ _ _ _ _ _ _ _ => ⟨_, rfl⟩, fun _ _ _ _ _ _ _ _ _ _ _ _ _ _ _ => rfl⟩
theorem pp_13_10 : PP [98, 98, 97] [97, 98, 98] := ⟨fun _ => ⟨_, rfl⟩, fun _ => ⟨_, rfl⟩, fun _ _ _ _ _ _ _ _ _ _ _ _ _ _ => ⟨_, rfl⟩, fun _ _ _ _ _ _ _ _ _ _ _ _ _ _ _ => rfl⟩
theorem pp_13_11 : PP [98, 98, 97] [98, 97, 97] := ⟨fun _ => ⟨_, rfl⟩, fun _ => ⟨_, rfl⟩, fun _ _ _ _ _ _ _ _ _ _ _ _ _ _ => ⟨_, rfl⟩, fun _ _ _ _ _ _ _ _ _ _ _ _ _ _ _ => rfl⟩
theorem pp_13_12 : PP [98, 98, 97] [98, 97, 98] := ⟨fun _ => ⟨_, rfl⟩, fun _ => ⟨_, rfl⟩, fun _ _ _ _ _ _ _ _ _ _ _ _ _ _ => ⟨_, rfl⟩, fun _ _ _ _ _ _ _ _ _ _ _ _ _ _ _ => rfl⟩
theorem pp_13_13 : PP [98, 98, 97] [98, 98, 97] := ⟨fun _ => ⟨_, rfl⟩, fun _ => ⟨_, rfl⟩, fun _ _ _ _ _ _ _ _ _ _ _ _ _ _ => ⟨_, rfl⟩, fun _ _ _ _ _ _ _ _ _ _ _ _ _ _ _ => rfl⟩
theorem pp_13_14 : PP [98, 98, 97] [98, 98, 98] := ⟨fun _ => ⟨_, rfl⟩, fun _ => ⟨_, rfl⟩, fun _ _ _ _ _ _ _ _ _ _ _ _ _ _ => ⟨_, rfl⟩, fun _ _ _ _ _ _ _ _ _ _ _ _ _ _ _ => rfl⟩
theorem pp_13_15 : PP [98, 98, 97] [97, 97, 97, 97] := ⟨fun _ => ⟨_, rfl⟩, fun _ => ⟨_, rfl⟩, fun _ _ _ _ _ _ _ _ _ _ _ _ _ _ => ⟨_, rfl⟩, fun _ _ _ _ _ _ _ _ _ _ _ _ _ _ _ => rfl⟩
theorem pp_13_16 : PP [98, 98, 97] [97, 97, 97, 98] := ⟨fun _ => ⟨_, rfl⟩, fun _ => ⟨_, rfl⟩, fun _ _ _ _ _ _ _ _ _ _ _ _ _ _ => ⟨_, rfl⟩, fun _ _ _ _ _ _ _ _ _ _ _ _ _ _ _ => rfl⟩
theorem pp_13_17 : PP [98, 98, 97] [97, 97, 98, 97] := ⟨fun _ => ⟨_, rfl⟩, fun _ => ⟨_, rfl⟩, fun _ _ _ _ _ _ _ _ _ _ _ _ _ _ => ⟨_, rfl⟩, fun _ _ _ _ _ _ _ _ _ _ _ _ _ _ _ => rfl⟩
theorem pp_13_18 : PP [98, 98, 97] [97, 97, 98, 98] := ⟨fun _ => ⟨_, rfl⟩, fun _ => ⟨_, rfl⟩, fun _ _ _ _ _ _ _ _ _ _ _ _ _ _ => ⟨_, rfl⟩, fun _ _ _ _ _ _ _ _ _ _ _ _ _ _ _ => rfl⟩
theorem pp_13_19 : PP [98, 98, 97] [97, 98, 97, 97] := ⟨fun _ => ⟨_, rfl⟩, fun _ => ⟨_, rfl⟩, fun _ _ _ _ _ _ _ _ _ _ _ _ _ _ => ⟨_, rfl⟩, fun _ _ _ _ _ _ _ _ _ _ _ _ _ _ _ => rfl⟩
theorem pp_13_20 : PP [98, 98, 97] [97, 98, 97, 98] := ⟨fun _ => ⟨_, rfl⟩, fun _ => ⟨_, rfl⟩, fun _ _ _ _ _ _ _ _ _ _ _ _ _ _ => ⟨_, rfl⟩, fun _ _ _ _ _ _ _ _ _ _ _ _ _ _ _ => rfl⟩
theorem pp_13_21 : PP [98, 98, 97] [97, 98, 98, 97] := ⟨fun _ => ⟨_, rfl⟩, fun _ => ⟨_, rfl⟩, fun _ _ _ _ _ _ _ _ _ _ _ _ _ _ => ⟨_, rfl⟩, fun _ _ _ _ _ _ _ _ _ _ _ _ _ _ _ => rfl⟩
theorem pp_13_22 : PP [98, 98, 97] [97, 98, 98, 98] := ⟨fun _ => ⟨_, rfl⟩, fun _ => ⟨_, rfl⟩, fun _ _ _ _ _ _ _ _ _ _ _ _ _ _ => ⟨_, rfl⟩, fun _ _ _ _ _ _ _ _ _ _ _ _ _ _ _ => rfl⟩
theorem pp_13_23 : PP [98, 98, 97] [98, 97, 97, 97] := ⟨fun _ => ⟨_, rfl⟩, fun _ => ⟨_, rfl⟩, fun _ _ _ _ _ _ _ _ _ _ _ _ _ _ => ⟨_, rfl⟩, fun _ _ _ _ _ _ _ _ _ _ _ _ _ _ _ => rfl⟩
theorem pp_13_24 : PP [98, 98, 97] [98, 97, 97, 98] := ⟨fun _ => ⟨_, rfl⟩, fun _ => ⟨_, rfl⟩, fun _ _ _ _ _ _ _ _ _ _ _ _ _ _ => ⟨_, rfl⟩, fun _ _ _ _ _ _ _ _ _ _ _ _ _ _ _ => rfl⟩
theorem pp_13_25 : PP [98, 98, 97] [98, 97, 98, 97] := ⟨fun _ => ⟨_, rfl⟩, fun _ => ⟨_, rfl⟩, fun _ _ _ _ _ _ _ _ _ _ _ _ _ _ => ⟨_, rfl⟩, fun _ _ _ _ _ _ _ _ _ _ _ _ _ _ _ => rfl⟩
theorem pp_13_26 : PP [98, 98, 97] [98, 97, 98, 98] := ⟨fun _ => ⟨_, rfl⟩, fun _ => ⟨_, rfl⟩, fun _ _ _ _ _ _ _ _ _ _ _ _ _ _ => ⟨_, rfl⟩, fun _ _ _ _ _ _ _ _ _ _ _ _ _ _ _ => rfl⟩
theorem pp_13_27 : PP [98, 98, 97] [98, 98, 97, 97] := ⟨fun _ => ⟨_, rfl⟩, fun _ => ⟨_, rfl⟩, fun _ _ _ _ _ _ _ _ _ _ _ _ _ _ => ⟨_, rfl⟩, fun _ _ _ _ _ _ _ _ _ _ _ _ _ _ _ => rfl⟩
theorem pp_13_28 : PP [98, 98, 97] [98, 98, 97, 98] := ⟨fun _ => ⟨_, rfl⟩, fun _ => ⟨_, rfl⟩, fun _ _ _ _ _ _ _ _ _ _ _ _ _ _ => ⟨_, rfl⟩, fun _ _ _ _ _ _ _ _ _ _ _ _ _ _ _ => rfl⟩
theorem pp_13_29 : PP [98, 98, 97] [98, 98, 98, 97] := ⟨fun _ => ⟨_, rfl⟩, fun _ => ⟨_, rfl⟩, fun _ _ _ _ _ _ _ _ _ _ _ _ _ _ => ⟨_, rfl⟩, fun _ _ _ _ _ _ _ _ _ _ _ _ _ _ _ => rfl⟩
theorem pp_13_30 : PP [98, 98, 97] [98, 98, 98, 98] := ⟨fun _ => ⟨_, rfl⟩, fun _ => ⟨_, rfl⟩, fun _ _ _ _ _ _ _ _ _ _ _ _ _ _ => ⟨_, rfl⟩, fun _ _ _ _ _ _ _ _ _ _ _ _ _ _ _ => rfl⟩
theorem pp_14_0 : PP [98, 98, 98] [] := ⟨fun _ => ⟨_, rfl⟩, fun _ => ⟨_, rfl⟩, fun _ _ _ _ _ _ _ _ _ _ _ _ _ _ => ⟨_, rfl⟩, fun _ _ _ _ _ _ _ _ _ _ _ _ _ _ _ => rfl⟩
theorem pp_14_1 : PP [98, 98, 98] [97] := ⟨fun _ => ⟨_, rfl⟩, fun _ => ⟨_, rfl⟩, fun _ _ _ _ _ _ _ _ _ _ _ _ _ _ => ⟨_, rfl⟩, fun _ _ _ _ _ _ _ _ _ _ _ _ _ _ _ => rfl⟩
theorem pp_14_2 : PP [98, 98, 98] [98] := ⟨fun _ => ⟨_, rfl⟩, fun _ => ⟨_, rfl⟩, fun _ _ _ _ _ _ _ _ _ _ _ _ _ _ => ⟨_, rfl⟩, fun _ _ _ _ _ _ _ _ _ _ _ _ _ _ _ => rfl⟩
theorem pp_14_3 : PP [98, 98, 98] [97, 97] := ⟨fun _ => ⟨_, rfl⟩, fun _ => ⟨_, rfl⟩, fun _ _ _ _ _ _ _ _ _ _ _ _ _ _ => ⟨_, rfl⟩, fun _ _ _ _ _ _ _ _ _ _ _ _ _ _ _ => rfl⟩
theorem pp_14_4 : PP [98, 98, 98] [97, 98] := ⟨fun _ => ⟨_, rfl⟩, fun _ => ⟨_, rfl⟩, fun _ _ _ _ _ _ _ _ _ _ _ _ _ _ => ⟨_, rfl⟩, fun _ _ _ _ _ _ _ _ _ _ _ _ _ _ _ => rfl⟩
theorem pp_14_5 : PP [98, 98, 98] [98, 97] := ⟨fun _ => ⟨_, rfl⟩, fun _ => ⟨_, rfl⟩, fun _ _ _ _ _ _ _ _ _ _ _ _ _ _ => ⟨_, rfl⟩, fun _ _ _ _ _ _ _ _ _ _ _ _ _ _ _ => rfl⟩
theorem pp_14_6 : PP [98, 98, 98] [98, 98] := ⟨fun _ => ⟨_, rfl⟩, fun _ => ⟨_, rfl⟩, fun _ _ _ _ _ _ _ _ _ _ _ _ _ _ => ⟨_, rfl⟩, fun _ _ _ _ _ _ _ _ _ _ _ _ _ _ _ => rfl⟩
theorem pp_14_7 : PP [98, 98, 98] [97, 97, 97] := ⟨fun _ => ⟨_, rfl⟩, fun _ => ⟨_, rfl⟩, fun _ _ _ _ _ _ _ _ _ _ _ _ _ _ => ⟨_, rfl⟩, fun _ _ _ _ _ _ _ _ _ _ _ _ _ _ _ => rfl⟩
theorem pp_14_8 : PP [98, 98, 98] [97, 97, 98] := ⟨fun _ => ⟨_, rfl⟩, fun _ => ⟨_, rfl⟩, fun _ _ _ _ _ _ _ _ _ _ _ _ _ _ => ⟨_, rfl⟩, fun _ _ _ _ _ _ _ _ _ _ _ _ _ _ _ => rfl⟩
theorem pp_14_9 : PP [98, 98, 98] [97, 98, 97] := ⟨fun _ => ⟨_, rfl⟩, fun _ => ⟨_, rfl⟩, fun _ _ _ _ _ _ _ _ _ _ _ _ _ _ => ⟨_, rfl⟩, fun _ _ _ _ _ _ _ _ _ _ _ _ _ _ _ => rfl⟩
theorem pp_14_10 : PP [98, 98, 98] [97, 98, 98] := ⟨fun _ => ⟨_, rfl⟩, fun _ => ⟨_, rfl⟩, fun _ _ _ _ _ _ _ _ _ _ _ _ _ _ => ⟨_, rfl⟩, fun _ _ _ _ _ _ _ _ _ _ _ _ _ _ _ => rfl⟩
theorem pp_14_11 : PP [98, 98, 98] [98, 97, 97] := ⟨fun _ => ⟨_, rfl⟩, fun _ => ⟨_, rfl⟩, fun _ _ _ _ _ _ _ _ _ _ _ _ _ _ => ⟨_, rfl⟩, fun _ _ _ _ _ _ _ _ _ _ _ _ _ _ _ => rfl⟩
theorem pp_14_12 : PP [98, 98, 98] [98, 97, 98] := ⟨fun _ => ⟨_, rfl⟩, fun _ => ⟨_, rfl⟩, fun _ _ _ _ _ _ _ _ _ _ _ _ _ _ => ⟨_, rfl⟩, fun _ _ _ _ _ _ _ _ _ _ _ _ _ _ _ => rfl⟩
theorem pp_14_13 : PP [98, 98, 98] [98, 98, 97] := ⟨fun _ => ⟨_, rfl⟩, fun _ => ⟨_, rfl⟩, fun _ _ _ _ _ _ _ _ _ _ _ _ _ _ => ⟨_, rfl⟩, fun _ _ _ _ _ _ _ _ _ _ _ _ _ _ _ => rfl⟩
theorem pp_14_14 : PP [98, 98, 98] [98, 98, 98] := ⟨fun _ => ⟨_, rfl⟩, fun _ => ⟨_, rfl⟩, fun _ _ _ _ _ _ _ _ _ _ _ _ _ _ => ⟨_, rfl⟩, fun _ _ _ _ _ _ _ _ _ _ _ _ _ _ _ => rfl⟩
theorem pp_14_15 : PP [98, 98, 98] [97, 97, 97, 97] := ⟨fun _ => ⟨_, rfl⟩, fun _ => ⟨_, rfl⟩, fun _ _ _ _ _ _ _ _ _ _ _ _ _ _ => ⟨_, rfl⟩, fun _ _ _ _ _ _ _ _ _ _ _ _ _ _ _ => rfl⟩
theorem pp_14_16 : PP [98, 98, 98] [97, 97, 97, 98] := ⟨fun _ => ⟨_, rfl⟩, fun _ => ⟨_, rfl⟩, fun _ _ _ _ _ _ _ _ _ _ _ _ _ _ => ⟨_, rfl⟩, fun _ _ _ _ _ _ _ _ _ _ _ _ _ _ _ => rfl⟩
theorem pp_14_17 : PP [98, 98, 98] [97, 97, 98, 97] := ⟨fun _ => ⟨_, rfl⟩, fun _ => ⟨_, rfl⟩, fun _ _ _ _ _ _ _ _ _ _ _ _ _ _ => ⟨_, rfl⟩, fun _ _ _ _ _ _ _ _ _ _ _ _ _ _ _ => rfl⟩
theorem pp_14_18 : PP [98, 98, 98] [97, 97, 98, 98] := ⟨fun _ => ⟨_, rfl⟩, fun _ => ⟨_, rfl⟩, fun _ _ _ _ _ _ _ _ _ _ _ _ _ _ => ⟨_, rfl⟩, fun _ _ _ _ _ _ _ _ _ _ _ _ _ _ _ => rfl⟩
theorem pp_14_19 : PP [98, 98, 98] [97, 98, 97, 97] := ⟨fun _ => ⟨_, rfl⟩, fun _ => ⟨_, rfl⟩, fun _ _ _ _ _ _ _ _ _ _ _ _ _ _ => ⟨_, rfl⟩, fun _ _ _ _ _ _ _ _ _ _ _ _ _ _ _ => rfl⟩
theorem pp_14_20 : PP [98, 98, 98] [97, 98, 97, 98] := ⟨fun _ => ⟨_, rfl⟩, fun _ => ⟨_, rfl⟩, fun _ _ _ _ _ _ _ _ _ _ _ _ _ _ => ⟨_, rfl⟩, fun _ _ _ _ _ _ _ _ _ _ _ _ _ _ _ => rfl⟩
theorem pp_14_21 : PP [98, 98, 98] [97, 98, 98, 97] := ⟨fun _ => ⟨_, rfl⟩, fun _ => ⟨_, rfl⟩, fun _ _ _ _ _ _ _ _ _ _ _ _ _ _ => ⟨_, rfl⟩, fun _ _ _ _ _ _ _ _ _ _ _ _ _ _ _ => rfl⟩
theorem pp_14_22 : PP [98, 98, 98] [97, 98, 98, 98] := ⟨fun _ => ⟨_, rfl⟩, fun _ => ⟨_, rfl⟩, fun _ _ _ _ _ _ _ _ _ _ _ _ _ _ => ⟨_, rfl⟩, fun _ _ _ _ _ _ _ _ _ _ _ _ _ _ _ => rfl⟩
theorem pp_14_23 : PP [98, 98, 98] [98, 97, 97, 97] := ⟨fun _ => ⟨_, rfl⟩, fun _ => ⟨_, rfl⟩, fun _ _ _ _ _ _ _ _ _ _ _ _ _ _ => ⟨_, rfl⟩, fun _ _ _ _ _ _ _ _ _ _ _ _ _ _ _ => rfl⟩
theorem pp_14_24 : PP [98, 98, 98] [98, 97, 97, 98] := ⟨fun _ => ⟨_, rfl⟩, fun _ => ⟨_, rfl⟩, fun _ _ _ _ _ _ _ _ _ _ _ _ _ _ => ⟨_, rfl⟩, fun _ _ _ _ _ _ _ _ _ _ _ _ _ _ _ => rfl⟩
theorem pp_14_25 : PP [98, 98, 98] [98, 97, 98, 97] := ⟨fun _ => ⟨_, rfl⟩, fun _ => ⟨_, rfl⟩, fun _ _ _ _ _ _ _ _ _ _ _ _ _ _ => ⟨_, rfl⟩, fun _ _ _ _ _ _ _ _ _ _ _ _ _ _ _ => rfl⟩
theorem pp_14_26 : PP [98, 98, 98] [98, 97, 98, 98] := ⟨fun _ => ⟨_, rfl⟩, fun _ => ⟨_, rfl⟩, fun _ _ _ _ _ _ _ _ _ _ _ _ _ _ => ⟨_, rfl⟩, fun _ _ _ _ _ _ _ _ _ _ _ _ _ _ _ => rfl⟩
theorem pp_14_27 : PP [98, 98, 98] [98, 98, 97, 97] := ⟨fun _ => ⟨_, rfl⟩, fun _ => ⟨_, rfl⟩, fun _ _ _ _ _ _ _ _ _ _ _ _ _ _ => ⟨_, rfl⟩, fun _ _ _ _ _ _ _ _ _ _ _ _ _ _ _ => rfl⟩
theorem pp_14_28 : PP [98, 98, 98] [98, 98, 97, 98] := ⟨fun _ => ⟨_, rfl⟩, fun _ => ⟨_, rfl⟩, fun _ _ _ _ _ _ _ _ _ _ _ _ _ _ => ⟨_, rfl⟩, fun _ _ _ _ _ _ _ _ _ _ _ _ _ _ _ => rfl⟩
theorem pp_14_29 : PP [98, 98, 98] [98, 98, 98, 97] := ⟨fun _ => ⟨_, rfl⟩, fun _ => ⟨_, rfl⟩, fun _ _ _ _ _ _ _ _ _ _ _ _ _ _ => ⟨_, rfl⟩, fun _ _ _ _ _ _ _ _ _ _ _ _ _ _ _ => rfl⟩
theorem pp_14_30 : PP [98, 98, 98] [98, 98, 98, 98] := ⟨fun _ => ⟨_, rfl⟩, fun _ => ⟨_, rfl⟩, fun _ _ _ _ _ _ _ _ _ _ _ _ _ _ => ⟨_, rfl⟩, fun _ _ _ _ _ _ _ _ _ _ _ _ _ _ _ => rfl⟩
theorem pp_15_0 : PP [97, 97, 97, 97] [] := ⟨fun _ => ⟨_, rfl⟩, fun _ => ⟨_, rfl⟩, fun _ _ _ _ _ _ _ _ _ _ _ _ _ _ => ⟨_, rfl⟩, fun _ _ _ _ _ _ _ _ _ _ _ _ _ _ _ => rfl⟩
theorem pp_15_1 : PP [97, 97, 97, 97] [97] := ⟨fun _ => ⟨_, rfl⟩, fun _ => ⟨_, rfl⟩, fun _ _ _ _ _ _ _ _ _ _ _ _ _ _ => ⟨_, rfl⟩, fun _ _ _ _ _ _ _ _ _ _ _ _ _ _ _ => rfl⟩
theorem pp_15_2 : PP [97, 97, 97, 97] [98] := ⟨fun _ => ⟨_, rfl⟩, fun _ => ⟨_, rfl⟩, fun _ _ _ _ _ _ _ _ _ _ _ _ _ _ => ⟨_, rfl⟩, fun _ _ _ _ _ _ _ _ _ _ _ _ _ _ _ => rfl⟩
theorem pp_15_3 : PP [97, 97, 97, 97] [97, 97] := ⟨fun _ => ⟨_, rfl⟩, fun _ => ⟨_, rfl⟩, fun _ _ _ _ _ _ _ _ _ _ _ _ _ _ => ⟨_, rfl⟩, fun _ _ _ _ _ _ _ _ _ _ _ _ _ _ _ => rfl⟩
theorem pp_15_4 : PP [97, 97, 97, 97] [97, 98] := ⟨fun _ => ⟨_, rfl⟩, fun _ => ⟨_, rfl⟩, fun _ _ _ _ _ _ _ _ _ _ _ _ _ _ => ⟨_, rfl⟩, fun _ _ _ _ _ _ _ _ _ _ _ _ _ _ _ => rfl⟩
theorem pp_15_5 : PP [97, 97, 97, 97] [98, 97] := ⟨fun _ => ⟨_, rfl⟩, fun _ => ⟨_, rfl⟩, fun _ _ _ _ _ _ _ _ _ _ _ _ _ _ => ⟨_, rfl⟩, fun _ _ _ _ _ _ _ _ _ _ _ _ _ _ _ => rfl⟩
theorem pp_15_6 : PP [97, 97, 97, 97] [98, 98] := ⟨fun _ => ⟨_, rfl⟩, fun _ => ⟨_, rfl⟩, fun _ _ _ _ _ _ _ _ _ _ _ _ _ _ => ⟨_, rfl⟩, fun _ _ _ _ _ _ _ _ _ _ _ _ _ _ _ => rfl⟩
theorem pp_15_7 : PP [97, 97, 97, 97] [97, 97, 97] := ⟨fun _ => ⟨_, rfl⟩, fun _ => ⟨_, rfl⟩, fun _ _ _ _ _ _ _ _ _ _ _ _ _ _ => ⟨_, rfl⟩, fun _ _ _ _ _ _ _ _ _ _ _ _ _ _ _ => rfl⟩
theorem pp_15_8 : PP [97, 97, 97, 97] [97, 97, 98] := ⟨fun _ => ⟨_, rfl⟩, fun _ => ⟨_, rfl⟩, fun _ _ _ _ _ _ _ _ _ _ _ _ _ _ => ⟨_, rfl⟩, fun _ _ _ _ _ _ _ _ _ _ _ _ _ _ _ => rfl⟩
theorem pp_15_9 : PP [97, 97, 97, 97] [97, 98, 97] := ⟨fun _ => ⟨_, rfl⟩, fun _ => ⟨_, rfl⟩, fun _ _ _ _ _ _ _ _ _ _ _ _ _ _ => ⟨_, rfl⟩, fun _ _ _ _ _ _ _ _ _ _ _ _ _ _ _ => rfl⟩
theorem pp_15_10 : PP [97, 97, 97, 97] [97, 98, 98] := ⟨fun _ => ⟨_, rfl⟩, fun _ => ⟨_, rfl⟩, fun _ _ _ _ _ _ _ _ _ _ _ _ _ _ => ⟨_, rfl⟩, fun _ _ _ _ _ _ _ _ _ _ _ _ _ _ _ => rfl⟩
theorem pp_15_11 : PP [97, 97, 97, 97] [98, 97, 97] := ⟨fun _ => ⟨_, rfl⟩, fun _ => ⟨_, rfl⟩, fun _ _ _ _ _ _ _ _ _ _ _ _ _ _ => ⟨_, rfl⟩, fun _ _ _ _ _ _ _ _ _ _ _ _ _ _ _ => rfl⟩
theorem pp_15_12 : PP [97, 97, 97, 97] [98, 97, 98] := ⟨fun _ => ⟨_, rfl⟩, fun _ => ⟨_, rfl⟩, fun _ _ _ _ _ _ _ _ _ _ _ _ _ _ => ⟨_, rfl⟩, fun _ _ _ _ _ _ _ _ _ _ _ _ _ _ _ => rfl⟩
theorem pp_15_13 : PP [97, 97, 97, 97] [98, 98, 97] := ⟨fun _ => ⟨_, rfl⟩, fun _ => ⟨_, rfl⟩, fun _ _ _ _ _ _ _ _ _ _ _ _ _ _ => ⟨_, rfl⟩, fun _ _ _ _ _ _ _ _ _ _ _ _ _ _ _ => rfl⟩
theorem pp_15_14 : PP [97, 97, 97, 97] [98, 98, 98] := ⟨fun _ => ⟨_, rfl⟩, fun _ => ⟨_, rfl⟩, fun _ _ _ _ _ _ _ _ _ _ _ _ _ _ => ⟨_, rfl⟩, fun _ _ _ _ _ _ _ _ _ _ _ _ _ _ _ => rfl⟩
theorem pp_15_15 : PP [97, 97, 97, 97] [97, 97, 97, 97] := ⟨fun _ => ⟨_, rfl⟩, fun _ => ⟨_, rfl⟩, fun _ _ _ _ _ _ _ _ _ _ _ _ _ _ => ⟨_, rfl⟩, fun _ _ _ _ _ _ _ _ _ _ _ _ _ _ _ => rfl⟩
theorem pp_15_16 : PP [97, 97, 97, 97] [97, 97, 97, 98] := ⟨fun _ => ⟨_, rfl⟩, fun _ => ⟨_, rfl⟩, fun _ _ _ _ _ _ _ _ _ _ _ _ _ _ => ⟨_, rfl⟩, fun _ _ _ _ _ _ _ _ _ _ _ _ _ _ _ => rfl⟩
theorem pp_15_17 : PP [97, 97, 97, 97] [97, 97, 98, 97] := ⟨fun _ => ⟨_, rfl⟩, fun _ => ⟨_, rfl⟩, fun _ _ _ _ _ _ _ _ _ _ _ _ _ _ => ⟨_, rfl⟩, fun _ _ _ _ _ _ _ _ _ _ _ _ _ _ _ => rfl⟩
theorem pp_15_18 : PP [97, 97, 97, 97] [97, 97, 98, 98] := ⟨fun _ => ⟨_, rfl⟩, fun _ => ⟨_, rfl⟩, fun _ _ _ _ _ _ _ _ _ _ _ _ _ _ => ⟨_, rfl⟩, fun _ _ _ _ _ _ _ _ _ _ _ _ _ _ _ => rfl⟩
theorem pp_15_19 : PP [97, 97, 97, 97] [97, 98, 97, 97] := ⟨fun _ => ⟨_, rfl⟩, fun _ => ⟨_, rfl⟩, fun _ _ _ _ _ _ _ _ _ _ _ _ _ _ => ⟨_, rfl⟩, fun _ _ _ _ _ _ _ _ _ _ _ _ _ _ _ => rfl⟩
theorem pp_15_20 : PP [97, 97, 97, 97] [97, 98, 97, 98] := ⟨fun _ => ⟨_, rfl⟩, fun _ => ⟨_, rfl⟩, fun _ _ _ _ _ _ _ _ _ _ _ _ _ _ => ⟨_, rfl⟩, fun _ _ _ _ _ _ _ _ _ _ _ _ _ _ _ => rfl⟩
theorem pp_15_21 : PP [97, 97, 97, 97] [97, 98, 98, 97] := ⟨fun _ => ⟨_, rfl⟩, fun _ => ⟨_, rfl⟩, fun _ _ _ _ _ _ _ _ _ _ _ _ _ _ => ⟨_, rfl⟩, fun _ _ _ _ _ _ _ _ _ _ _ _ _ _ _ => rfl⟩
theorem pp_15_22 : PP [97, 97, 97, 97] [97, 98, 98, 98] := ⟨fun _ => ⟨_, rfl⟩, fun _ => ⟨_, rfl⟩, fun _ _ _ _ _ _ _ _ _ _ _ _ _ _ => ⟨_, rfl⟩, fun _ _ _ _ _ _ _ _ _ _ _ _ _ _ _ => rfl⟩
theorem pp_15_23 : PP [97, 97, 97, 97] [98, 97, 97, 97] := ⟨fun _ => ⟨_, rfl⟩, fun _ => ⟨_, rfl⟩, fun _ _ _ _ _ _ _ _ _ _ _ _ _ _ => ⟨_, rfl⟩, fun _ _ _ _ _ _ _ _ _ _ _ _ _ _ _ => rfl⟩
theorem pp_15_24 : PP [97, 97, 97, 97] [98, 97, 97, 98] := ⟨fun _ => ⟨_, rfl⟩, fun _ => ⟨_, rfl⟩, fun _ _ _ _ _ _ _ _ _ _ _ _ _ _ => ⟨_, rfl⟩, fun _ _ _ _ _ _ _ _ _ _ _ _ _ _ _ => rfl⟩
theorem pp_15_25 : PP [97, 97, 97, 97] [98, 97, 98, 97] := ⟨fun _ => ⟨_, rfl⟩, fun _ => ⟨_, rfl⟩, fun _ _ _ _ _ _ _ _ _ _ _ _ _ _ => ⟨_, rfl⟩, fun _ _ _ _ _ _ _ _ _ _ _ _ _ _ _ => rfl⟩
theorem pp_15_26 : PP [97, 97, 97, 97] [98, 97, 98, 98] := ⟨fun _ => ⟨_, rfl⟩, fun _ => ⟨_, rfl⟩, fun _ _ _ _ _ _ _ _ _ _ _ _ _ _ => ⟨_, rfl⟩, fun _ _ _ _ _ _ _ _ _ _ _ _ _ _ _ => rfl⟩
theorem pp_15_27 : PP [97, 97, 97, 97] [98, 98, 97, 97] := ⟨fun _ => ⟨_, rfl⟩, fun _ => ⟨_, rfl⟩, fun _ _ _ _ _ _ _ _ _ _ _ _ _ _ => ⟨_, rfl⟩, fun _ _ _ _ _ _ _ _ _ _ _ _ _ _ _ => rfl⟩
theorem pp_15_28 : PP [97, 97, 97, 97] [98, 98, 97, 98] := ⟨fun _ => ⟨_, rfl⟩, fun _ => ⟨_, rfl⟩, fun _ _ _ _ _ _ _ _ _ _ _ _ _ _ => ⟨_, rfl⟩, fun _ _ _ _ _ _ _ _ _ _ _ _ _ _ _ => rfl⟩
theorem pp_15_29 : PP [97, 97, 97, 97] [98, 98, 98, 97] := ⟨fun _ => ⟨_, rfl⟩, fun _ => ⟨_, rfl⟩, fun _ _ _ _ _ _ _ _ _ _ _ _ _ _ => ⟨_, rfl⟩, fun _ _ _ _ _ _ _ _ _ _ _ _ _ _ _ => rfl⟩
theorem pp_15_30 : PP [97, 97, 97, 97] [98, 98, 98, 98] := ⟨fun _ => ⟨_, rfl⟩, fun _ => ⟨_, rfl⟩, fun _ _ _ _ _ _ _ _ _ _ _ _ _ _ => ⟨_, rfl⟩, fun _ _ _ _ _ _ _ _ _ _ _ _ _ _ _ => rfl⟩
theorem pp_16_0 : PP [97, 97, 97, 98] [] := ⟨fun _ => ⟨_, rfl⟩, fun _ => ⟨_, rfl⟩, fun _ _ _ _ _ _ _ _ _ _ _ _ _ _ => ⟨_, rfl⟩, fun _ _ _ _ _ _ _ _ _ _ _ _ _ _ _ => rfl⟩
theorem pp_16_1 : PP [97, 97, 97, 98] [97] := ⟨fun _ => ⟨_, rfl⟩, fun _ => ⟨_, rfl⟩, fun _ _ _ _ _ _ _ _ _ _ _ _ _ _ => ⟨_, rfl⟩, fun _ _ _ _ _ _ _ _ _ _ _ _ _ _ _ => rfl⟩
theorem pp_16_2 : PP [97, 97, 97, 98] [98] := ⟨fun _ => ⟨_, rfl⟩, fun _ => ⟨_, rfl⟩, fun _ _ _ _ _ _ _ _ _ _ _ _ _ _ => ⟨_, rfl⟩, fun _ _ _ _ _ _ _ _ _ _ _ _ _ _ _ => rfl⟩
theorem pp_16_3 : PP [97, 97, 97, 98] [97, 97] := ⟨fun _ => ⟨_, rfl⟩, fun _ => ⟨_, rfl⟩, fun _ _ _ _ _ _ _ _ _ _ _ _ _ _ => ⟨_, rfl⟩, fun _ _ _ _ _ _ _ _ _ _ _ _ _ _ _ => rfl⟩
theorem pp_16_4 : PP [97, 97, 97, 98] [97, 98] := ⟨fun _ => ⟨_, rfl⟩, fun _ => ⟨_, rfl⟩, fun _ _ _ _ _ _ _ _ _ _ _ _ _ _ => ⟨_, rfl⟩, fun _ _ _ _ _ _ _ _ _ _ _ _ _ _ _ => rfl⟩
theorem pp_16_5 : PP [97, 97, 97, 98] [98, 97] := ⟨fun _ => ⟨_, rfl⟩, fun _ => ⟨_, rfl⟩, fun _ _ _ _ _ _ _ _ _ _ _ _ _ _ => ⟨_, rfl⟩, fun _ _ _ _ _ _ _ _ _ _ _ _ _ _ _ => rfl⟩
theorem pp_16_6 : PP [97, 97, 97, 98] [98, 98] := ⟨fun _ => ⟨_, rfl⟩, fun _ => ⟨_, rfl⟩, fun _ _ _ _ _ _ _ _ _ _ _ _ _ _ => ⟨_, rfl⟩, fun _ _ _ _ _ _ _ _ _ _ _ _ _ _ _ => rfl⟩
theorem pp_16_7 : PP [97, 97, 97, 98] [97, 97, 97] := ⟨fun _ => ⟨_, rfl⟩, fun _ => ⟨_, rfl⟩, fun _ _ _ _ _ _ _ _ _ _ _ _ _ _ => ⟨_, rfl⟩, fun _ _ _ _ _ _ _ _ _ _ _ _ _ _ _ => rfl⟩
theorem pp_16_8 : PP [97, 97, 97, 98] [97, 97, 98] := ⟨fun _ => ⟨_, rfl⟩, fun _ => ⟨_, rfl⟩, fun _ _ _ _ _ _ _ _ _ _ _ _ _ _ => ⟨_, rfl⟩, fun _ _ _ _ _ _ _ _ _ _ _ _ _ _ _ => rfl⟩
theorem pp_16_9 : PP [97, 97, 97, 98] [97, 98, 97] := ⟨fun _ => ⟨_, rfl⟩, fun _ => ⟨_, rfl⟩, fun _ _ _ _ _ _ _ _ _ _ _ _ _ _ => ⟨_, rfl⟩, fun _ _ _ _ _ _ _ _ _ _ _ _ _ _ _ => rfl⟩
theorem pp_16_10 : PP [97, 97, 97, 98] [97, 98, 98] := ⟨fun _ => ⟨_, rfl⟩, fun _ => ⟨_, rfl⟩, fun _ _ _ _ _ _ _ _ _ _ _ _ _ _ => ⟨_, rfl⟩, fun _ _ _ _ _ _ _ _ _ _ _ _ _ _ _ => rfl⟩
theorem pp_16_11 : PP [97, 97, 97, 98] [98, 97, 97] := ⟨fun _ => ⟨_, rfl⟩, fun _ => ⟨_, rfl⟩, fun _ _ _ _ _ _ _ _ _ _ _ _ _ _ => ⟨_, rfl⟩, fun _ _ _ _ _ _ _ _ _ _ _ _ _ _ _ => rfl⟩
theorem pp_16_12 : PP [97, 97, 97, 98] [98, 97, 98] := ⟨fun _ => ⟨_, rfl⟩, fun _ => ⟨_, rfl⟩, fun _ _ _ _ _ _ _ _ _ _ _ _ _ _ => ⟨_, rfl⟩, fun _ _ _ _ _ _ _ _ _ _ _ _ _ _ _ => rfl⟩
theorem pp_16_13 : PP [97, 97, 97, 98] [98, 98, 97] := ⟨fun _ => ⟨_, rfl⟩, fun _ => ⟨_, rfl⟩, fun _ _ _ _ _ _ _ _ _ _ _ _ _ _ => ⟨_, rfl⟩, fun _ _ _ _ _ _ _ _ _ _ _ _ _ _ _ => rfl⟩
theorem pp_16_14 : PP [97, 97, 97, 98] [98, 98, 98] := ⟨fun _ => ⟨_, rfl⟩, fun _ => ⟨_, rfl⟩, fun _ _ _ _ _ _ _ _ _ _ _ _ _ _ => ⟨_, rfl⟩, fun _ _ _ _ _ _ _ _ _ _ _ _ _ _ _ => rfl⟩
theorem pp_16_15 : PP [97, 97, 97, 98] [97, 97, 97, 97] := ⟨fun _ => ⟨_, rfl⟩, fun _ => ⟨_, rfl⟩, fun _ _ _ _ _ _ _ _ _ _ _ _ _ _ => ⟨_, rfl⟩, fun _ _ _ _ _ _ _ _ _ _ _ _ _ _ _ => rfl⟩
theorem pp_16_16 : PP [97, 97, 97, 98] [97, 97, 97, 98] := ⟨fun _ => ⟨_, rfl⟩, fun _ => ⟨_, rfl⟩, fun _ _ _ _ _ _ _ _ _ _ _ _ _ _ => ⟨_, rfl⟩, fun _ _ _ _ _ _ _ _ _ _ _ _ _ _ _ => rfl⟩
theorem pp_16_17 : PP [97, 97, 97, 98] [97, 97, 98, 97] := ⟨fun _ => ⟨_, rfl⟩, fun _ => ⟨_, rfl⟩, fun _ _ _ _ _ _ _ _ _ _ _ _ _ _ => ⟨_, rfl⟩, fun _ _ _ _ _ _ _ _ _ _ _ _ _ _ _ => rfl⟩
theorem pp_16_18 : PP [97, 97, 97, 98] [97, 97, 98, 98] := ⟨fun _ => ⟨_, rfl⟩, fun _ => ⟨_, rfl⟩, fun _ _ _ _ _ _ _ _ _ _ _ _ _ _ => ⟨_, rfl⟩, fun _ _ _ _ _ _ _ _ _ _ _ _ _ _ _ => rfl⟩
theorem pp_16_19 : PP [97, 97, 97, 98] [97, 98, 97, 97] := ⟨fun _ => ⟨_, rfl⟩, fun _ => ⟨_, rfl⟩, fun _ _ _ _ _ _ _ _ _ _ _ _ _ _ => ⟨_, rfl⟩, fun _ _ _ _ _ _ _ _ _ _ _ _ _ _ _ => rfl⟩
theorem pp_16_20 : PP [97, 97, 97, 98] [97, 98, 97, 98] := ⟨fun _ => ⟨_, rfl⟩, fun _ => ⟨_, rfl⟩, fun _ _ _ _ _ _ _ _ _ _ _ _ _ _ => ⟨_, rfl⟩, fun _ _ _ _ _ _ _ _ _ _ _ _ _ _ _ => rfl⟩
theorem pp_16_21 : PP [97, 97, 97, 98] [97, 98, 98, 97] := ⟨fun _ => ⟨_, rfl⟩, fun _ => ⟨_, rfl⟩, fun _ _ _ _ _ _ _ _ _ _ _ _ _ _ => ⟨_, rfl⟩, fun _ _ _ _ _ _ _ _ _ _ _ _ _ _ _ => rfl⟩
theorem pp_16_22 : PP [97, 97, 97, 98] [97, 98, 98, 98] := ⟨fun _ => ⟨_, rfl⟩, fun _ => ⟨_, rfl⟩, fun _ _ _ _ _ _ _ _ _ _ _ _ _ _ => ⟨_, rfl⟩, fun _ _ _ _ _ _ _ _ _ _ _ _ _ _ _ => rfl⟩
theorem pp_16_23 : PP [97, 97, 97, 98] [98, 97, 97, 97] := ⟨fun _ => ⟨_, rfl⟩, fun _ => ⟨_, rfl⟩, fun _ _ _ _ _ _ _ _ _ _ _ _ _ _ => ⟨_, rfl⟩, fun _ _ _ _ _ _ _ _ _ _ _ _ _ _ _ => rfl⟩
theorem pp_16_24 : PP [97, 97, 97, 98] [98, 97, 97, 98] := ⟨fun _ => ⟨_, rfl⟩, fun _ => ⟨_, rfl⟩, fun _ _ _ _ _ _ _ _ _ _ _ _ _ _ => ⟨_, rfl⟩, fun _ _ _ _ _ _ _ _ _ _ _ _ _ _ _ => rfl⟩
theorem pp_16_25 : PP [97, 97, 97, 98] [98, 97, 98, 97] := ⟨fun _ => ⟨_, rfl⟩, fun _ => ⟨_, rfl⟩, fun _ _ _ _ _ _ _ _ _ _ _ _ _ _ => ⟨_, rfl⟩, fun _ _ _ _ _ _ _ _ _ _ _ _ _ _ _ => rfl⟩
theorem pp_16_26 : PP [97, 97, 97, 98] [98, 97, 98, 98] := ⟨fun _ => ⟨_, rfl⟩, fun _ => ⟨_, rfl⟩, fun _ _ _ _ _ _ _ _ _ _ _ _ _ _ => ⟨_, rfl⟩, fun _ _ _ _ _ _ _ _ _ _ _ _ _ _ _ => rfl⟩
theorem pp_16_27 : PP [97, 97, 97, 98] [98, 98, 97, 97] := ⟨fun _ => ⟨_, rfl⟩, fun _ => ⟨_, rfl⟩, fun _ _ _ _ _ _ _ _ _ _ _ _ _ _ => ⟨_, rfl⟩, fun _ _ _ _ _ _ _ _ _ _ _ _ _ _ _ => rfl⟩
theorem pp_16_28 : PP [97, 97, 97, 98] [98, 98, 97, 98] := ⟨fun _ => ⟨_, rfl⟩, fun _ => ⟨_, rfl⟩, fun _ _ _ _ _ _ _ _ _ _ _ _ _ _ => ⟨_, rfl⟩, fun _ _ _ _ _ _ _ _ _ _ _ _ _ _ _ => rfl⟩
theorem pp_16_29 : PP [97, 97, 97, 98] [98, 98, 98, 97] := ⟨fun _ => ⟨_, rfl⟩, fun _ => ⟨_, rfl⟩, fun _ _ _ _ _ _ _ _ _ _ _ _ _ _ => ⟨_, rfl⟩, fun _ _ _ _ _ _ _ _ _ _ _ _ _ _ _ => rfl⟩
theorem pp_16_30 : PP [97, 97, 97, 98] [98, 98, 98, 98] := ⟨fun _ => ⟨_, rfl⟩, fun _ => ⟨_, rfl⟩, fun _ _ _ _ _ _ _ _ _ _ _ _ _ _ => ⟨_, rfl⟩, fun _ _ _ _ _ _ _ _ _ _ _ _ _ _ _ => rfl⟩
theorem pp_17_0 : PP [97, 97, 98, 97] [] := ⟨fun _ => ⟨_, rfl⟩, fun _ => ⟨_, rfl⟩, fun _ _ _ _ _ _ _ _ _ _ _ _ _ _ => ⟨_, rfl⟩, fun _ _ _ _ _ _ _ _ _ _ _ _ _ _ _ => rfl⟩
theorem pp_17_1 : PP [97, 97, 98, 97] [97] := ⟨fun _ => ⟨_, rfl⟩, fun _ => ⟨_, rfl⟩, fun _ _ _ _ _ _ _ _ _ _ _ _ _ _ => ⟨_, rfl⟩, fun _ _ _ _ _ _ _ _ _ _ _ _ _ _ _ => rfl⟩
theorem pp_17_2 : PP [97, 97, 98, 97] [98] := ⟨fun _ => ⟨_, rfl⟩, fun _ => ⟨_, rfl⟩, fun _ _ _ _ _ _ _ _ _ _ _ _ _ _ => ⟨_, rfl⟩, fun _ _ _ _ _ _ _ _ _ _ _ _ _ _ _ => rfl⟩
theorem pp_17_3 : PP [97, 97, 98, 97] [97, 97] := ⟨fun _ => ⟨_, rfl⟩, fun _ => ⟨_, rfl⟩, fun _ _ _ _ _ _ _ _ _ _ _ _ _ _ => ⟨_, rfl⟩, fun _ _ _ _ _ _ _ _ _ _ _ _ _ _ _ => rfl⟩
theorem pp_17_4 : PP [97, 97, 98, 97] [97, 98] := ⟨fun _ => ⟨_, rfl⟩, fun _ => ⟨_, rfl⟩, fun _ _ _ _ _ _ _ _ _ _ _ _ _ _ => ⟨_, rfl⟩, fun _ _ _ _ _ _ _ _ _ _ _ _ _ _ _ => rfl⟩
theorem pp_17_5 : PP [97, 97, 98, 97] [98, 97] := ⟨fun _ => ⟨_, rfl⟩, fun _ => ⟨_, rfl⟩, fun _ _ _ _ _ _ _ _ _ _ _ _ _ _ => ⟨_, rfl⟩, fun _ _ _ _ _ _ _ _ _ _ _ _ _ _ _ => rfl⟩
theorem pp_17_6 : PP [97, 97, 98, 97] [98, 98] := ⟨fun _ => ⟨_, rfl⟩, fun _ => ⟨_, rfl⟩, fun _ _ _ _ _ _ _ _ _ _ _ _ _ _ => ⟨_, rfl⟩, fun _ _ _ _ _ _ _ _ _ _ _ _ _ _ _ => rfl⟩
theorem pp_17_7 : PP [97, 97, 98, 97] [97, 97, 97] := ⟨fun _ => ⟨_, rfl⟩, fun _ => ⟨_, rfl⟩, fun _ _ _ _ _ _ _ _ _ _ _ _ _ _ => ⟨_, rfl⟩, fun _ _ _ _ _ _ _ _ _ _ _ _ _ _ _ => rfl⟩
theorem pp_17_8 : PP [97, 97, 98, 97] [97, 97, 98] := ⟨fun _ => ⟨_, rfl⟩, fun _ => ⟨_, rfl⟩, fun _ _ _ _ _ _ _ _ _ _ _ _ _ _ => ⟨_, rfl⟩, fun _ _ _ _ _ _ _ _ _ _ _ _ _ _ _ => rfl⟩
theorem pp_17_9 : PP [97, 97, 98, 97] [97, 98, 97] := ⟨fun _ => ⟨_, rfl⟩, fun _ => ⟨_, rfl⟩, fun _ _ _ _ _ _ _ _ _ _ _ _ _ _ => ⟨_, rfl⟩, fun _ _ _ _ _ _ _ _ _ _ _ _ _ _ _ => rfl⟩
theorem pp_17_10 : PP [97, 97, 98, 97] [97, 98, 98] := ⟨fun _ => ⟨_, rfl⟩, fun _ => ⟨_, rfl⟩, fun _ _ _ _ _ _ _ _ _ _ _ _ _ _ => ⟨_, rfl⟩, fun _ _ _ _ _ _ _ _ _ _ _ _ _ _ _ => rfl⟩
theorem pp_17_11 : PP [97, 97, 98, 97] [98, 97, 97] := ⟨fun _ => ⟨_, rfl⟩, fun _ => ⟨_, rfl⟩, fun _ _ _ _ _ _ _ _ _ _ _ _ _ _ => ⟨_, rfl⟩, fun _ _ _ _ _ _ _ _ _ _ _ _ _ _ _ => rfl⟩
theorem pp_17_12 : PP [97, 97, 98, 97] [98, 97, 98] := ⟨fun _ => ⟨_, rfl⟩, fun _ => ⟨_, rfl⟩, fun _ _ _ _ _ _ _ _ _ _ _ _ _ _ => ⟨_, rfl⟩, fun _ _ _ _ _ _ _ _ _ _ _ _ _ _ _ => rfl⟩
theorem pp_17_13 : PP [97, 97, 98, 97] [98, 98, 97] := ⟨fun _ => ⟨_, rfl⟩, fun _ => ⟨_, rfl⟩, fun _ _ _ _ _ _ _ _ _ _ _ _ _ _ => ⟨_, rfl⟩, fun _ _ _ _ _ _ _ _ _ _ _ _ _ _ _ => rfl⟩
theorem pp_17_14 : PP [97, 97, 98, 97] [98, 98, 98] := ⟨fun _ => ⟨_, rfl⟩, fun _ => ⟨_, rfl⟩, fun _ _ _ _ _ _ _ _ _ _ _ _ _ _ => ⟨_, rfl⟩, fun _ _ _ _ _ _ _ _ _ _ _ _ _ _ _ => rfl⟩
theorem pp_17_15 : PP [97, 97, 98, 97] [97, 97, 97, 97] := ⟨fun _ => ⟨_, rfl⟩, fun _ => ⟨_, rfl⟩, fun _ _ _ _ _ _ _ _ _ _ _ _ _ _ => ⟨_, rfl⟩, fun _ _ _ _ _ _ _ _ _ _ _ _ _ _ _ => rfl⟩
theorem pp_17_16 : PP [97, 97, 98, 97] [97, 97, 97, 98] := ⟨fun _ => ⟨_, rfl⟩, fun _ => ⟨_, rfl⟩, fun _ _ _ _ _ _ _ _ _ _ _ _ _ _ => ⟨_, rfl⟩, fun _ _ _ _ _ _ _ _ _ _ _ _ _ _ _ => rfl⟩
theorem pp_17_17 : PP [97, 97, 98, 97] [97, 97, 98, 97] := ⟨fun _ => ⟨_, rfl⟩, fun _ => ⟨_, rfl⟩, fun _ _ _ _ _ _ _ _ _ _ _ _ _ _ => ⟨_, rfl⟩, fun _ _ _ _ _ _ _ _ _ _ _ _ _ _ _ => rfl⟩
theorem pp_17_18 : PP [97, 97, 98, 97] [97, 97, 98, 98] := ⟨fun _ => ⟨_, rfl⟩, fun _ => ⟨_, rfl⟩, fun _ _ _ _ _ _ _ _ _ _ _ _ _ _ => ⟨_, rfl⟩, fun _ _ _ _ _ _ _ _ _ _ _ _ _ _ _ => rfl⟩
theorem pp_17_19 : PP [97, 97, 98, 97] [97, 98, 97, 97] := ⟨fun _ => ⟨_, rfl⟩, fun _ => ⟨_, rfl⟩, fun _ _ _ _ _ _ _ _ _ _ _ _ _ _ => ⟨_, rfl⟩, fun _ _ _ _ _ _ _ _ _ _ _ _ _ _ _ => rfl⟩
theorem pp_17_20 : PP [97, 97, 98, 97] [97, 98, 97, 98] := ⟨fun _ => ⟨_, rfl⟩, fun _ => ⟨_, rfl⟩, fun _ _ _ _ _ _ _ _ _ _ _ _ _ _ => ⟨_, rfl⟩, fun _ _ _ _ _ _ _ _ _ _ _ _ _ _ _ => rfl⟩
theorem pp_17_21 : PP [97, 97, 98, 97] [97, 98, 98, 97] := ⟨fun _ => ⟨_, rfl⟩, fun _ => ⟨_, rfl⟩, fun _ _ _ _ _ _ _ _ _ _ _ _ _ _ => ⟨_, rfl⟩, fun _ _ _ _ _ _ _ _ _ _ _ _ _ _ _ => rfl⟩
theorem pp_17_22 : PP [97, 97, 98, 97] [97, 98, 98, 98] := ⟨fun _ => ⟨_, rfl⟩, fun _ => ⟨_, rfl⟩, fun _ _ _ _ _ _ _ _ _ _ _ _ _ _ => ⟨_, rfl⟩, fun _ _ _ _ _ _ _ _ _ _ _ _ _ _ _ => rfl⟩
theorem pp_17_23 : PP [97, 97, 98, 97] [98, 97, 97, 97] := ⟨fun _ => ⟨_, rfl⟩, fun _ => ⟨_, rfl⟩, fun _ _ _ _ _ _ _ _ _ _ _ _ _ _ => ⟨_, rfl⟩, fun _ _ _ _ _ _ _ _ _ _ _ _ _ _ _ => rfl⟩
theorem pp_17_24 : PP [97, 97, 98, 97] [98, 97, 97, 98] := ⟨fun _ => ⟨_, rfl⟩, fun _ => ⟨_, rfl⟩, fun _ _ _ _ _ _ _ _ _ _ _ _ _ _ => ⟨_, rfl⟩, fun _ _ _ _ _ _ _ _ _ _ _ _ _ _ _ => rfl⟩
theorem pp_17_25 : PP [97, 97, 98, 97] [98, 97, 98, 97] := ⟨fun _ => ⟨_, rfl⟩, fun _ => ⟨_, rfl⟩, fun _ _ _ _ _ _ _ _ _ _ _ _ _ _ => ⟨_, rfl⟩, fun _ _ _ _ _ _ _ _ _ _ _ _ _ _ _ => rfl⟩
theorem pp_17_26 : PP [97, 97, 98, 97] [98, 97, 98, 98] := ⟨fun _ => ⟨_, rfl⟩, fun _ => ⟨_, rfl⟩, fun _ _ _ _ _ _ _ _ _ _ _ _ _ _ => ⟨_, rfl⟩, fun _ _ _ _ _ _ _ _ _ _ _ _ _ _ _ => rfl⟩
theorem pp_17_27 : PP [97, 97, 98, 97] [98, 98, 97, 97] := ⟨fun _ => ⟨_, rfl⟩, fun _ => ⟨_, rfl⟩, fun _ _ _ _ _ _ _ _ _ _ _ _ _ _ => ⟨_, rfl⟩, fun _ _ _ _ _ _ _ _ _ _ _ _ _ _ _ => rfl⟩
theorem pp_17_28 : PP [97, 97, 98, 97] [98, 98, 97, 98] := ⟨fun _ => ⟨_, rfl⟩, fun _ => ⟨_, rfl⟩, fun _ _ _ _ _ _ _ _ _ _ _ _ _ _ => ⟨_, rfl⟩, fun _ _ _ _ _ _ _ _ _ _ _ _ _ _ _ => rfl⟩
theorem pp_17_29 : PP [97, 97, 98, 97] [98, 98, 98, 97] := ⟨fun _ => ⟨_, rfl⟩, fun _ => ⟨_, rfl⟩, fun _ _ _ _ _ _ _ _ _ _ _ _ _ _ => ⟨_, rfl⟩, fun _ _ _ _ _ _ _ _ _ _ _ _ _ _ _ => rfl⟩
theorem pp_17_30 : PP [97, 97, 98, 97] [98, 98, 98, 98] := ⟨fun _ => ⟨_, rfl⟩, fun _ => ⟨_, rfl⟩, fun _ _ _ _ _ _ _ _ _ _ _ _ _ _ => ⟨_, rfl⟩, fun _ _ _ _ _ _ _ _ _ _ _ _ _ _ _ => rfl⟩
theorem pp_18_0 : PP [97, 97, 98, 98] [] := ⟨fun _ => ⟨_, rfl⟩, fun _ => ⟨_, rfl⟩, fun _ _ _ _ _ _ _ _ _ _ _ _ _ _ => ⟨_, rfl⟩, fun _ _ _ _ _ _ _ _ _ _ _ _ _ _ _ => rfl⟩
theorem pp_18_1 : PP [97, 97, 98, 98] [97] := ⟨fun _ => ⟨_, rfl⟩, fun _ => ⟨_, rfl⟩, fun _ _ _ _ _ _ _ _ _ _ _ _ _ _ => ⟨_, rfl⟩, fun _ _ _ _ _ _ _ _ _ _ _ _ _ _ _ => rfl⟩
theorem pp_18_2 : PP [97, 97, 98, 98] [98] := ⟨fun _ => ⟨_, rfl⟩, fun _ => ⟨_, rfl⟩, fun _ _ _ _ _ _ _ _ _ _ _ _ _ _ => ⟨_, rfl⟩, fun _ _ _ _ _ _ _ _ _ _ _ _ _ _ _ => rfl⟩
theorem pp_18_3 : PP [97, 97, 98, 98] [97, 97] := ⟨fun _ => ⟨_, rfl⟩, fun _ => ⟨_, rfl⟩, fun _ _ _ _ _ _ _ _ _ _ _ _ _ _ => ⟨_, rfl⟩, fun _ _ _ _ _ _ _ _ _ _ _ _ _ _ _ => rfl⟩
theorem pp_18_4 : PP [97, 97, 98, 98] [97, 98] := ⟨fun _ => ⟨_, rfl⟩, fun _ => ⟨_, rfl⟩, fun _ _ _ _ _ _ _ _ _ _ _ _ _ _ => ⟨_, rfl⟩, fun _ _ _ _ _ _ _ _ _ _ _ _ _ _ _ => rfl⟩
theorem pp_18_5 : PP [97, 97, 98, 98] [98, 97] := ⟨fun _ => ⟨_, rfl⟩, fun _ => ⟨_, rfl⟩, fun _ _ _ _ _ _ _ _ _ _ _ _ _ _ => ⟨_, rfl⟩, fun _ _ _ _ _ _ _ _ _ _ _ _ _ _ _ => rfl⟩
theorem pp_18_6 : PP [97, 97, 98, 98] [98, 98] := ⟨fun _ => ⟨_, rfl⟩, fun _ => ⟨_, rfl⟩, fun _ _ _ _ _ _ _ _ _ _ _ _ _ _ => ⟨_, rfl⟩, fun _ _ _ _ _ _ _ _ _ _ _ _ _ _ _ => rfl⟩
theorem pp_18_7 : PP [97, 97, 98, 98] [97, 97, 97] := ⟨fun _ => ⟨_, rfl⟩, fun _ => ⟨_, rfl⟩, fun _ _ _ _ _ _ _ _ _ _ _ _ _ _ => ⟨_, rfl⟩, fun _ _ _ _ _ _ _ _ _ _ _ _ _ _ _ => rfl⟩
theorem pp_18_8 : PP [97, 97, 98, 98] [97, 97, 98] := ⟨fun _ => ⟨_, rfl⟩, fun _ => ⟨_, rfl⟩, fun _ _ _ _ _ _ _ _ _ _ _ _ _ _ => ⟨_, rfl⟩, fun _ _ _ _ _ _ _ _ _ _ _ _ _ _ _ => rfl⟩
theorem pp_18_9 : PP [97, 97, 98, 98] [97, 98, 97] := ⟨fun _ => ⟨_, rfl⟩, fun _ => ⟨_, rfl⟩, fun _ _ _ _ _ _ _ _ _ _ _ _ _ _ => ⟨_, rfl⟩, fun _ _ _ _ _ _ _ _ _ _ _ _ _ _ _ => rfl⟩
theorem pp_18_10 : PP [97, 97, 98, 98] [97, 98, 98] := ⟨fun _ => ⟨_, rfl⟩, fun _ => ⟨_, rfl⟩, fun _ _ _ _ _ _ _ _ _ _ _ _ _ _ => ⟨_, rfl⟩, fun _ _ _ _ _ _ _ _ _ _ _ _ _ _ _ => rfl⟩
theorem pp_18_11 : PP [97, 97, 98, 98] [98, 97, 97] := ⟨fun _ => ⟨_, rfl⟩, fun _ => ⟨_, rfl⟩, fun _ _ _ _ _ _ _ _ _ _ _ _ _ _ => ⟨_, rfl⟩, fun _ _ _ _ _ _ _ _ _ _ _ _ _ _ _ => rfl⟩
theorem pp_18_12 : PP [97, 97, 98, 98] [98, 97, 98] := ⟨fun _ => ⟨_, rfl⟩, fun _ => ⟨_, rfl⟩, fun _ _ _ _ _ _ _ _ _ _ _ _ _ _ => ⟨_, rfl⟩, fun _ _ _ _ _ _ _ _ _ _ _ _ _ _ _ => rfl⟩
theorem pp_18_13 : PP [97, 97, 98, 98] [98, 98, 97] := ⟨fun _ => ⟨_, rfl⟩, fun _ => ⟨_, rfl⟩, fun _ _ _ _ _ _ _ _ _ _ _ _ _ _ => ⟨_, rfl⟩, fun _ _ _ _ _ _ _ _ _ _ _ _ _ _ _ => rfl⟩
theorem pp_18_14 : PP [97, 97, 98, 98] [98, 98, 98] := ⟨fun _ => ⟨_, rfl⟩, fun _ => ⟨_, rfl⟩, fun _ _ _ _ _ _ _ _ _ _ _ _ _ _ => ⟨_, rfl⟩, fun _ _ _ _ _ _ _ _ _ _ _ _ _ _ _ => rfl⟩
theorem pp_18_15 : PP [97, 97, 98, 98] [97, 97, 97, 97] := ⟨fun _ => ⟨_, rfl⟩, fun _ => ⟨_, rfl⟩, fun _ _ _ _ _ _ _ _ _ _ _ _ _ _ => ⟨_, rfl⟩, fun _ _ _ _ _ _ _ _ _ _ _ _ _ _ _ => rfl⟩
theorem pp_18_16 : PP [97, 97, 98, 98] [97, 97, 97, 98] := ⟨fun _ => ⟨_, rfl⟩, fun _ => ⟨_, rfl⟩, fun _ _ _ _ _ _ _ _ _ _ _ _ _ _ => ⟨_, rfl⟩, fun _ _ _ _ _ _ _ _ _ _ _ _ _ _ _ => rfl⟩
theorem pp_18_17 : PP [97, 97, 98, 98] [97, 97, 98, 97] := ⟨fun _ => ⟨_, rfl⟩, fun _ => ⟨_, rfl⟩, fun _ _ _ _ _ _ _ _ _ _ _ _ _ _ => ⟨_, rfl⟩, fun _ _ _ _ _ _ _ _ _ _ _ _ _ _ _ => rfl⟩
theorem pp_18_18 : PP [97, 97, 98, 98] [97, 97, 98, 98] := ⟨fun _ => ⟨_, rfl⟩, fun _ => ⟨_, rfl⟩, fun _ _ _ _ _ _ _ _ _ _ _ _ _ _ => ⟨_, rfl⟩, fun _ _ _ _ _ _ _ _ _ _ _ _ _ _ _ => rfl⟩
theorem pp_18_19 : PP [97, 97, 98, 98] [97, 98, 97, 97] := ⟨fun _ => ⟨_, rfl⟩, fun _ => ⟨_, rfl⟩, fun _ _ _ _ _ _ _ _ _ _ _ _ _ _ => ⟨_, rfl⟩, fun _ _ _ _ _ _ _ _ _ _ _ _ _ _ _ => rfl⟩
theorem pp_18_20 : PP [97, 97, 98, 98] [97, 98, 97, 98] := ⟨fun _ => ⟨_, rfl⟩, fun _ => ⟨_, rfl⟩, fun _ _ _ _ _ _ _ _ _ _ _ _ _ _ => ⟨_, rfl⟩, fun _ _ _ _ _ _ _ _ _ _ _ _ _ _ _ => rfl⟩
theorem pp_18_21 : PP [97, 97, 98, 98] [97, 98, 98, 97] := ⟨fun _ => ⟨_, rfl⟩, fun _ => ⟨_, rfl⟩, fun _ _ _ _ _ _ _ _ _ _ _ _ _ _ => ⟨_, rfl⟩, fun _ _ _ _ _ _ _ _ _ _ _ _ _ _ _ => rfl⟩
theorem pp_18_22 : PP [97, 97, 98, 98] [97, 98, 98, 98] := ⟨fun _ => ⟨_, rfl⟩, fun _ => ⟨_, rfl⟩, fun _ _ _ _ _ _ _ _ _ _ _ _ _ _ => ⟨_, rfl⟩, fun _ _ _ _ _ _ _ _ _ _ _ _ _ _ _ => rfl⟩
theorem pp_18_23 : PP [97, 97, 98, 98] [98, 97, 97, 97] := ⟨fun _ => ⟨_, rfl⟩, fun _ => ⟨_, rfl⟩, fun _ _ _ _ _ _ _ _ _ _ _ _ _ _ => ⟨_, rfl⟩, fun _ _ _ _ _ _ _ _ _ _ _ _ _ _ _ => rfl⟩
theorem pp_18_24 : PP [97, 97, 98, 98] [98, 97, 97, 98] := ⟨fun _ => ⟨_, rfl⟩, fun _ => ⟨_, rfl⟩, fun _ _ _ _ _ _ _ _ _ _ _ _ _ _ => ⟨_, rfl⟩, fun _ _ _ _ _ _ _ _ _ _ _ _ _ _ _ => rfl⟩
theorem pp_18_25 : PP [97, 97, 98, 98] [98, 97, 98, 97] := ⟨fun _ => ⟨_, rfl⟩, fun _ => ⟨_, rfl⟩, fun _ _ _ _ _ _ _ _ _ _ _ _ _ _ => ⟨_, rfl⟩, fun _ _ _ _ _ _ _ _ _ _ _ _ _ _ _ => rfl⟩
theorem pp_18_26 : PP [97, 97, 98, 98] [98, 97, 98, 98] := ⟨fun _ => ⟨_, rfl⟩, fun _ => ⟨_, rfl⟩, fun _ _ _ _ _ _ _ _ _ _ _ _ _ _ => ⟨_, rfl⟩, fun _ _ _ _ _ _ _ _ _ _ _ _ _ _ _ => rfl⟩
theorem pp_18_27 : PP [97, 97, 98, 98] [98, 98, 97, 97] := ⟨fun _ => ⟨_, rfl⟩, fun _ => ⟨_, rfl⟩, fun _ _ _ _ _ _ _ _ _ _ _ _ _ _ => ⟨_, rfl⟩, fun _ _ _ _ _ _ _ _ _ _ _ _ _ _ _ => rfl⟩
theorem pp_18_28 : PP [97, 97, 98, 98] [98, 98, 97, 98] := ⟨fun _ => ⟨_, rfl⟩, fun _ => ⟨_, rfl⟩, fun _ _ _ _ _ _ _ _ _ _ _ _ _ _ => ⟨_, rfl⟩, fun _ _ _ _ _ _ _ _ _ _ _ _ _ _ _ => rfl⟩
theorem pp_18_29 : PP [97, 97, 98, 98] [98, 98, 98, 97] := ⟨fun _ => ⟨_, rfl⟩, fun _ => ⟨_, rfl⟩, fun _ _ _ _ _ _ _ _ _ _ _ _ _ _ => ⟨_, rfl⟩, fun _ _ _ _ _ _ _ _ _ _ _ _ _ _ _ => rfl⟩
theorem pp_18_30 : PP [97, 97, 98, 98] [98, 98, 98, 98] := ⟨fun _ => ⟨_, rfl⟩, fun _ => ⟨_, rfl⟩, fun _ _ _ _ _ _ _ _ _ _ _ _ _ _ => ⟨_, rfl⟩, fun _ _ _ _ _ _ _ _ _ _ _ _ _ _ _ => rfl⟩
theorem pp_19_0 : PP [97, 98, 97, 97] [] := ⟨fun _ => ⟨_, rfl⟩, fun _ => ⟨_, rfl⟩, fun _ _ _ _ _ _ _ _ _ _ _ _ _ _ => ⟨_, rfl⟩, fun _ _ _ _ _ _ _ _ _ _ _ _ _ _ _ => rfl⟩
theorem pp_19_1 : PP [97, 98, 97, 97] [97] := ⟨fun _ => ⟨_, rfl⟩, fun _ => ⟨_, rfl⟩, fun _ _ _ _ _ _ _ _ _ _ _ _ _ _ => ⟨_, rfl⟩, fun _ _ _ _ _ _ _ _ _ _ _ _ _ _ _ => rfl⟩
theorem pp_19_2 : PP [97, 98, 97, 97] [98] := ⟨fun _ => ⟨_, rfl⟩, fun _ => ⟨_, rfl⟩, fun _ _ _ _ _ _ _ _ _ _ _ _ _ _ => ⟨_, rfl⟩, fun _ _ _ _ _ _ _ _ _ _ _ _ _ _ _ => rfl⟩
theorem pp_19_3 : PP [97, 98, 97, 97] [97, 97] := ⟨fun _ => ⟨_, rfl⟩, fun _ => ⟨_, rfl⟩, fun _ _ _ _ _ _ _ _ _ _ _ _ _ _ => ⟨_, rfl⟩, fun _ _ _ _ _ _ _ _ _ _ _ _ _ _ _ => rfl⟩
theorem pp_19_4 : PP [97, 98, 97, 97] [97, 98] := ⟨fun _ => ⟨_, rfl⟩, fun _ => ⟨_, rfl⟩, fun _ _ _ _ _ _ _ _ _ _ _ _ _ _ => ⟨_, rfl⟩, fun _ _ _ _ _ _ _ _ _ _ _ _ _ _ _ => rfl⟩
theorem pp_19_5 : PP [97, 98, 97, 97] [98, 97] := ⟨fun _ => ⟨_, rfl⟩, fun _ => ⟨_, rfl⟩, fun _ _ _ _ _ _ _ _ _ _ _ _ _ _ => ⟨_, rfl⟩, fun _ _ _ _ _ _ _ _ _ _ _ _ _ _ _ => rfl⟩
theorem pp_19_6 : PP [97, 98, 97, 97] [98, 98] := ⟨fun _ => ⟨_, rfl⟩, fun _ => ⟨_, rfl⟩, fun _ _ _ _ _ _ _ _ _ _ _ _ _ _ => ⟨_, rfl⟩, fun _ _ _ _ _ _ _ _ _ _ _ _ _ _ _ => rfl⟩
theorem pp_19_7 : PP [97, 98, 97, 97] [97, 97, 97] := ⟨fun _ => ⟨_, rfl⟩, fun _ => ⟨_, rfl⟩, fun _ _ _ _ _ _ _ _ _ _ _ _ _ _ => ⟨_, rfl⟩, fun _ _ _ _ _ _ _ _ _ _ _ _ _ _ _ => rfl⟩
theorem pp_19_8 : PP [97, 98, 97, 97] [97, 97, 98] := ⟨fun _ => ⟨_, rfl⟩, fun _ => ⟨_, rfl⟩, fun _ _ _ _ _ _ _ _ _ _ _ _ _ _ => ⟨_, rfl⟩, fun _ _ _ _ _ _ _ _ _ _ _ _ _ _ _ => rfl⟩
theorem pp_19_9 : PP [97, 98, 97, 97] [97, 98, 97] := ⟨fun _ => ⟨_, rfl⟩, fun _ => ⟨_, rfl⟩, fun _ _ _ _ _ _ _ _ _ _ _ _ _ _ => ⟨_, rfl⟩, fun _ _ _ _ _ _ _ _ _ _ _ _ _ _ _ => rfl⟩
theorem pp_19_10 : PP [97, 98, 97, 97] [97, 98, 98] := ⟨fun _ => ⟨_, rfl⟩, fun _ => ⟨_, rfl⟩, fun _ _ _ _ _ _ _ _ _ _ _ _ _ _ => ⟨_, rfl⟩, fun _ _ _ _ _ _ _ _ _ _ _ _ _ _ _ => rfl⟩
theorem pp_19_11 : PP [97, 98, 97, 97] [98, 97, 97] := ⟨fun _ => ⟨_, rfl⟩, fun _ => ⟨_, rfl⟩, fun _ _ _ _ _ _ _ _ _ _ _ _ _ _ => ⟨_, rfl⟩, fun _ _ _ _ _ _ _ _ _ _ _ _ _ _ _ => rfl⟩
theorem pp_19_12 : PP [97, 98, 97, 97] [98, 97, 98] := ⟨fun _ => ⟨_, rfl⟩, fun _ => ⟨_, rfl⟩, fun _ _ _ _ _ _ _ _ _ _ _ _ _ _ => ⟨_, rfl⟩, fun _ _ _ _ _ _ _ _ _ _ _ _ _ _ _ => rfl⟩
theorem pp_19_13 : PP [97, 98, 97, 97] [98, 98, 97] := ⟨fun _ => ⟨_, rfl⟩, fun _ => ⟨_, rfl⟩, fun _ _ _ _ _ _ _ _ _ _ _ _ _ _ => ⟨_, rfl⟩, fun _ _ _ _ _ _ _ _ _ _ _ _ _ _ _ => rfl⟩
theorem pp_19_14 : PP [97, 98, 97, 97] [98, 98, 98] := ⟨fun _ => ⟨_, rfl⟩, fun _ => ⟨_, rfl⟩, fun _ _ _ _ _ _ _ _ _ _ _ _ _ _ => ⟨_, rfl⟩, fun _ _ _ _ _ _ _ _ _ _ _ _ _ _ _ => rfl⟩
theorem pp_19_15 : PP [97, 98, 97, 97] [97, 97, 97, 97] := ⟨fun _ => ⟨_, rfl⟩, fun _ => ⟨_, rfl⟩, fun _ _ _ _ _ _ _ _ _ _ _ _ _ _ => ⟨_, rfl⟩, fun _ _ _ _ _ _ _ _ _ _ _ _ _ _ _ => rfl⟩
theorem pp_19_16 : PP [97, 98, 97, 97] [97, 97, 97, 98] := ⟨fun _ => ⟨_, rfl⟩, fun _ => ⟨_, rfl⟩, fun _ _ _ _ _ _ _ _ _ _ _ _ _ _ => ⟨_, rfl⟩, fun _ _ _ _ _ _ _ _ _ _ _ _ _ _ _ => rfl⟩
theorem pp_19_17 : PP [97, 98, 97, 97] [97, 97, 98, 97] := ⟨fun _ => ⟨_, rfl⟩, fun _ => ⟨_, rfl⟩, fun _ _ _ _ _ _ _ _ _ _ _ _ _ _ => ⟨_, rfl⟩, fun _ _ _ _ _ _ _ _ _ _ _ _ _ _ _ => rfl⟩
theorem pp_19_18 : PP [97, 98, 97, 97] [97, 97, 98, 98] := ⟨fun _ => ⟨_, rfl⟩, fun _ => ⟨_, rfl⟩, fun _ _ _ _ _ _ _ _ _ _ _ _ _ _ => ⟨_, rfl⟩, fun _ _ _ _ _ _ _ _ _ _ _ _ _ _ _ => rfl⟩
theorem pp_19_19 : PP [97, 98, 97, 97] [97, 98, 97, 97] := ⟨fun _ => ⟨_, rfl⟩, fun _ => ⟨_, rfl⟩, fun _ _ _ _ _ _ _ _ _ _ _ _ _ _ => ⟨_, rfl⟩, fun _ _ _ _ _ _ _ _ _ _ _ _ _ _ _ => rfl⟩
theorem pp_19_20 : PP [97, 98, 97, 97] [97, 98, 97, 98] := ⟨fun _ => ⟨_, rfl⟩, fun _ => ⟨_, rfl⟩, fun _ _ _ _ _ _ _ _ _ _ _ _ _ _ => ⟨_, rfl⟩, fun _ _ _ _ _ _ _ _ _ _ _ _ _ _ _ => rfl⟩
theorem pp_19_21 : PP [97, 98, 97, 97] [97, 98, 98, 97] := ⟨fun _ => ⟨_, rfl⟩, fun _ => ⟨_, rfl⟩, fun _ _ _ _ _ _ _ _ _ _ _ _ _ _ => ⟨_, rfl⟩, fun _ _ _ _ _ _ _ _ _ _ _ _ _ _ _ => rfl⟩
theorem pp_19_22 : PP [97, 98, 97, 97] [97, 98, 98, 98] := ⟨fun _ => ⟨_, rfl⟩, fun _ => ⟨_, rfl⟩, fun _ _ _ _ _ _ _ _ _ _ _ _ _ _ => ⟨_, rfl⟩, fun _ _ _ _ _ _ _ _ _ _ _ _ _ _ _ => rfl⟩
theorem pp_19_23 : PP [97, 98, 97, 97] [98, 97, 97, 97] := ⟨fun _ => ⟨_, rfl⟩, fun _ => ⟨_, rfl⟩, fun _ _ _ _ _ _ _ _ _ _ _ _ _ _ => ⟨_, rfl⟩, fun _ _ _ _ _ _ _ _ _ _ _ _ _ _ _ => rfl⟩
theorem pp_19_24 : PP [97, 98, 97, 97] [98, 97, 97, 98] := ⟨fun _ => ⟨_, rfl⟩, fun _ => ⟨_, rfl⟩, fun _ _ _ _ _ _ _ _ _ _ _ _ _ _ => ⟨_, rfl⟩, fun _ _ _ _ _ _ _ _ _ _ _ _ _ _ _ => rfl⟩
theorem pp_19_25 : PP [97, 98, 97, 97] [98, 97, 98, 97] := ⟨fun _ => ⟨_, rfl⟩, fun _ => ⟨_, rfl⟩, fun _ _ _ _ _ _ _ _ _ _ _ _ _ _ => ⟨_, rfl⟩, fun _ _ _ _ _ _ _ _ _ _ _ _ _ _ _ => rfl⟩
theorem pp_19_26 : PP [97, 98, 97, 97] [98, 97, 98, 98] := ⟨fun _ => ⟨_, rfl⟩, fun _ => ⟨_, rfl⟩, fun _ _ _ _ _ _ _ _ _ _ _ _ _ _ => ⟨_, rfl⟩, fun _ _ _ _ _ _ _ _ _ _ _ _ _ _ _ => rfl⟩
theorem pp_19_27 : PP [97, 98, 97, 97] [98, 98, 97, 97] := ⟨fun _ => ⟨_, rfl⟩, fun _ => ⟨_, rfl⟩, fun _ _ _ _ _ _ _ _ _ _ _ _ _ _ => ⟨_, rfl⟩, fun _ _ _ _ _ _ _ _ _ _ _ _ _ _ _ => rfl⟩
theorem pp_19_28 : PP [97, 98, 97, 97] [98, 98, 97, 98] := ⟨fun _ => ⟨_, rfl⟩, fun _ => ⟨_, rfl⟩, fun _ _ _ _ _ _ _ _ _ _ _ _ _ _ => ⟨_, rfl⟩, fun _ _ _ _ _ _ _ _ _ _ _ _ _ _ _ => rfl⟩
theorem pp_19_29 : PP [97, 98, 97, 97] [98, 98, 98, 97] := ⟨fun _ => ⟨_, rfl⟩, fun _ => ⟨_, rfl⟩, fun _ _ _ _ _ _ _ _ _ _ _ _ _ _ => ⟨_, rfl⟩, fun _ _ _ _ _ _ _ _ _ _ _ _ _ _ _ => rfl⟩
theorem pp_19_30 : PP [97, 98, 97, 97] [98, 98, 98, 98] := ⟨fun _ => ⟨_, rfl⟩, fun _ => ⟨_, rfl⟩, fun _ _ _ _ _ _ _ _ _ _ _ _ _ _ => ⟨_, rfl⟩, fun _ _ _ _ _ _ _ _ _ _ _ _ _ _ _ => rfl⟩
theorem pp_20_0 : PP [97, 98, 97, 98] [] := ⟨fun _ => ⟨_, rfl⟩, fun _ => ⟨_, rfl⟩, fun _ _ _ _ _ _ _ _ _ _ _ _ _ _ => ⟨_, rfl⟩, fun _ _ _ _ _ _ _ _ _ _ _ _ _ _ _ => rfl⟩
theorem pp_20_1 : PP [97, 98, 97, 98] [97] := ⟨fun _ => ⟨_, rfl⟩, fun _ => ⟨_, rfl⟩, fun _ _ _ _ _ _ _ _ _ _ _ _ _ _ => ⟨_, rfl⟩, fun _ _ _ _ _ _ _ _ _ _ _ _ _ _ _ => rfl⟩
theorem pp_20_2 : PP [97, 98, 97, 98] [98] := ⟨fun _ => ⟨_, rfl⟩, fun _ => ⟨_, rfl⟩, fun _ _ _ _ _ _ _ _ _ _ _ _ _ _ => ⟨_, rfl⟩, fun _ _ _ _ _ _ _ _ _ _ _ _ _ _ _ => rfl⟩
theorem pp_20_3 : PP [97, 98, 97, 98] [97, 97] := ⟨fun _ => ⟨_, rfl⟩, fun _ => ⟨_, rfl⟩, fun _ _ _ _ _ _ _ _ _ _ _ _ _ _ => ⟨_, rfl⟩, fun _ _ _ _ _ _ _ _ _ _ _ _ _ _ _ => rfl⟩
theorem pp_20_4 : PP [97, 98, 97, 98] [97, 98] := ⟨fun _ => ⟨_, rfl⟩, fun _ => ⟨_, rfl⟩, fun _ _ _ _ _ _ _ _ _ _ _ _ _ _ => ⟨_, rfl⟩, fun _ _ _ _ _ _ _ _ _ _ _ _ _ _ _ => rfl⟩
theorem pp_20_5 : PP [97, 98, 97, 98] [98, 97] := ⟨fun _ => ⟨_, rfl⟩, fun _ => ⟨_, rfl⟩, fun _ _ _ _ _ _ _ _ _ _ _ _ _ _ => ⟨_, rfl⟩, fun _ _ _ _ _ _ _ _ _ _ _ _ _ _ _ => rfl⟩
theorem pp_20_6 : PP [97, 98, 97, 98] [98, 98] := ⟨fun _ => ⟨_, rfl⟩, fun _ => ⟨_, rfl⟩, fun _ _ _ _ _ _ _ _ _ _ _ _ _ _ => ⟨_, rfl⟩, fun _ _ _ _ _ _ _ _ _ _ _ _ _ _ _ => rfl⟩
theorem pp_20_7 : PP [97, 98, 97, 98] [97, 97, 97] := ⟨fun _ => ⟨_, rfl⟩, fun _ => ⟨_, rfl⟩, fun _ _ _ _ _ _ _ _ _ _ _ _ _ _ => ⟨_, rfl⟩, fun _ _ _ _ _ _ _ _ _ _ _ _ _ _ _ => rfl⟩
theorem pp_20_8 : PP [97, 98, 97, 98] [97, 97, 98] := ⟨fun _ => ⟨_, rfl⟩, fun _ => ⟨_, rfl⟩, fun _ _ _ _ _ _ _ _ _ _ _ _ _ _ => ⟨_, rfl⟩, fun _ _ _ _ _ _ _ _ _ _ _ _ _ _ _ => rfl⟩
theorem pp_20_9 : PP [97, 98, 97, 98] [97, 98, 97] := ⟨fun _ => ⟨_, rfl⟩, fun _ => ⟨_, rfl⟩, fun _ _ _ _ _ _ _ _ _ _ _ _ _ _ => ⟨_, rfl⟩, fun _ _ _ _ _ _ _ _ _ _ _ _ _ _ _ => rfl⟩
theorem pp_20_10 : PP [97, 98, 97, 98] [97, 98, 98] := ⟨fun _ => ⟨_, rfl⟩, fun _ => ⟨_, rfl⟩, fun _ _ _ _ _ _ _ _ _ _ _ _ _ _ => ⟨_, rfl⟩, fun _ _ _ _ _ _ _ _ _ _ _ _ _ _ _ => rfl⟩
theorem pp_20_11 : PP [97, 98, 97, 98] [98, 97, 97] := ⟨fun _ => ⟨_, rfl⟩, fun _ => ⟨_, rfl⟩, fun _ _ _ _ _ _ _ _ _ _ _ _ _ _ => ⟨_, rfl⟩, fun _ _ _ _ _ _ _ _ _ _ _ _ _ _ _ => rfl⟩
theorem pp_20_12 : PP [97, 98, 97, 98] [98, 97, 98] := ⟨fun _ => ⟨_, rfl⟩, fun _ => ⟨_, rfl⟩, fun _ _ _ _ _ _ _ _ _ _ _ _ _ _ => ⟨_, rfl⟩, fun _ _ _ _ _ _ _ _ _ _ _ _ _ _ _ => rfl⟩
theorem pp_20_13 : PP [97, 98, 97, 98] [98, 98, 97] := ⟨fun _ => ⟨_, rfl⟩, fun _ => ⟨_, rfl⟩, fun _ _ _ _ _ _ _ _ _ _ _ _ _ _ => ⟨_, rfl⟩, fun _ _ _ _ _ _ _ _ _ _ _ _ _ _ _ => rfl⟩
theorem pp_20_14 : PP [97, 98, 97, 98] [98, 98, 98] := ⟨fun _ => ⟨_, rfl⟩, fun _ => ⟨_, rfl⟩, fun _ _ _ _ _ _ _ _ _ _ _ _ _ _ => ⟨_, rfl⟩, fun _ _ _ _ _ _ _ _ _ _ _ _ _ _ _ => rfl⟩
theorem pp_20_15 : PP [97, 98, 97, 98] [97, 97, 97, 97] := ⟨fun _ => ⟨_, rfl⟩, fun _ => ⟨_, rfl⟩, fun _ _ _ _ _ _ _ _ _ _ _ _ _ _ => ⟨_, rfl⟩, fun _ _ _ _ _ _ _ _ _ _ _ _ _ _ _ => rfl⟩
theorem pp_20_16 : PP [97, 98, 97, 98] [97, 97, 97, 98] := ⟨fun _ => ⟨_, rfl⟩, fun _ => ⟨_, rfl⟩, fun _ _ _ _ _ _ _ _ _ _ _ _ _ _ => ⟨_, rfl⟩, fun _ _ _ _ _ _ _ _ _ _ _ _ _ _ _ => rfl⟩
theorem pp_20_17 : PP [97, 98, 97, 98] [97, 97, 98, 97] := ⟨fun _ => ⟨_, rfl⟩, fun _ => ⟨_, rfl⟩, fun _ _ _ _ _ _ _ _ _ _ _ _ _ _ => ⟨_, rfl⟩, fun _ _ _ _ _ _ _ _ _ _ _ _ _ _ _ => rfl⟩
theorem pp_20_18 : PP [97, 98, 97, 98] [97, 97, 98, 98] := ⟨fun _ => ⟨_, rfl⟩, fun _ => ⟨_, rfl⟩, fun _ _ _ _ _ _ _ _ _ _ _ _ _ _ => ⟨_, rfl⟩, fun _ _ _ _ _ _ _ _ _ _ _ _ _ _ _ => rfl⟩
theorem pp_20_19 : PP [97, 98, 97, 98] [97, 98, 97, 97] := ⟨fun _ => ⟨_, rfl⟩, fun _ => ⟨_, rfl⟩, fun _ _ _ _ _ _ _ _ _ _ _ _ _ _ => ⟨_, rfl⟩, fun _ _ _ _ _ _ _ _ _ _ _ _ _ _ _ => rfl⟩
theorem pp_20_20 : PP [97, 98, 97, 98] [97, 98, 97, 98] := ⟨fun _ => ⟨_, rfl⟩, fun _ => ⟨_, rfl⟩, fun _ _ _ _ _ _ _ _ _ _ _ _ _ _ => ⟨_, rfl⟩, fun _ _ _ _ _ _ _ _ _ _ _ _ _ _ _ => rfl⟩
theorem pp_20_21 : PP [97, 98, 97, 98] [97, 98, 98, 97] := ⟨fun _ => ⟨_, rfl⟩, fun _ => ⟨_, rfl⟩, fun _ _ _ _ _ _ _ _ _ _ _ _ _ _ => ⟨_, rfl⟩, fun _ _ _ _ _ _ _ _ _ _ _ _ _ _ _ => rfl⟩
theorem pp_20_22 : PP [97, 98, 97, 98] [97, 98, 98, 98] := ⟨fun _ => ⟨_, rfl⟩, fun _ => ⟨_, rfl⟩, fun _ _ _ _ _ _ _ _ _ _ _ _ _ _ => ⟨_, rfl⟩, fun _ _ _ _ _ _ _ _ _ _ _ _ _ _ _ => rfl⟩
theorem pp_20_23 : PP [97, 98, 97, 98] [98, 97, 97, 97] := ⟨fun _ => ⟨_, rfl⟩, fun _ => ⟨_, rfl⟩, fun _ _ _ _ _ _ _ _ _ _ _ _ _ _ => ⟨_, rfl⟩, fun _ _ _ _ _ _ _ _ _ _ _ _ _ _ _ => rfl⟩
theorem pp_20_24 : PP [97, 98, 97, 98] [98, 97, 97, 98] := ⟨fun _ => ⟨_, rfl⟩, fun _ => ⟨_, rfl⟩, fun _ _ _ _ _ _ _ _ _ _ _ _ _ _ => ⟨_, rfl⟩, fun _ _ _ _ _ _ _ _ _ _ _ _ _ _ _ => rfl⟩
theorem pp_20_25 : PP [97, 98, 97, 98] [98, 97, 98, 97] := ⟨fun _ => ⟨_, rfl⟩, fun _ => ⟨_, rfl⟩, fun _ _ _ _ _ _ _ _ _ _ _ _ _ _ => ⟨_, rfl⟩, fun _ _ _ _ _ _ _ _ _ _ _ _ _ _ _ => rfl⟩
theorem pp_20_26 : PP [97, 98, 97, 98] [98, 97, 98, 98] := ⟨fun _ => ⟨_, rfl⟩, fun _ => ⟨_, rfl⟩, fun _ _ _ _ _ _ _ _ _ _ _ _ _ _ => ⟨_, rfl⟩, fun _ _ _ _ _ _ _ _ _ _ _ _ _ _ _ => rfl⟩
theorem pp_20_27 : PP [97, 98, 97, 98] [98, 98, 97, 97] := ⟨fun _ => ⟨_, rfl⟩, fun _ => ⟨_, rfl⟩, fun _ _ _ _ _ _ _ _ _ _ _ _ _ _ => ⟨_, rfl⟩, fun _ _ _ _ _ _ _ _ _ _ _ _ _ _ _ => rfl⟩
theorem pp_20_28 : PP [97, 98, 97, 98] [98, 98, 97, 98] := ⟨fun _ => ⟨_, rfl⟩, fun _ => ⟨_, rfl⟩, fun _ _ _ _ _ _ _ _ _ _ _ _ _ _ => ⟨_, rfl⟩, fun _ _ _ _ _ _ _ _ _ _ _ _ _ _ _ => rfl⟩
theorem pp_20_29 : PP [97, 98, 97, 98] [98, 98, 98, 97] := ⟨fun _ => ⟨_, rfl⟩, fun _ => ⟨_, rfl⟩, fun _ _ _ _ _ _ _ _ _ _ _ _ _ _ => ⟨_, rfl⟩, fun _ _ _ _ _ _ _ _ _ _ _ _ _ _ _ => rfl⟩
theorem pp_20_30 : PP [97, 98, 97, 98] [98, 98, 98, 98] := ⟨fun _ => ⟨_, rfl⟩, fun _ => ⟨_, rfl⟩, fun _ _ _ _ _ _ _ _ _ _ _ _ _ _ => ⟨_, rfl⟩, fun _ _ _ _ _ _ _ _ _ _ _ _ _ _ _ => rfl⟩
theorem pp_21_0 : PP [97, 98, 98, 97] [] := ⟨fun _ => ⟨_, rfl⟩, fun _ => ⟨_, rfl⟩, fun _ _ _ _ _ _ _ _ _ _ _ _ _ _ => ⟨_, rfl⟩, fun _ _ _ _ _ _ _ _ _ _ _ _ _ _ _ => rfl⟩
theorem pp_21_1 : PP [97, 98, 98, 97] [97] := ⟨fun _ => ⟨_, rfl⟩, fun _ => ⟨_, rfl⟩, fun _ _ _ _ _ _ _ _ _ _ _ _ _ _ => ⟨_, rfl⟩, fun _ _ _ _ _ _ _ _ _ _ _ _ _ _ _ => rfl⟩
theorem pp_21_2 : PP [97, 98, 98, 97] [98] := ⟨fun _ => ⟨_, rfl⟩, fun _ => ⟨_, rfl⟩, fun _ _ _ _ _ _ _ _ _ _ _ _ _ _ => ⟨_, rfl⟩, fun _ _ _ _ _ _ _ _ _ _ _ _ _ _ _ => rfl⟩
theorem pp_21_3 : PP [97, 98, 98, 97] [97, 97] := ⟨fun _ => ⟨_, rfl⟩, fun _ => ⟨_, rfl⟩, fun _ _ _ _ _ _ _ _ _ _ _ _ _ _ => ⟨_, rfl⟩, fun _ _ _ _ _ _ _ _ _ _ _ _ _ _ _ => rfl⟩
theorem pp_21_4 : PP [97, 98, 98, 97] [97, 98] := ⟨fun _ => ⟨_, rfl⟩, fun _ => ⟨_, rfl⟩, fun _ _ _ _ _ _ _ _ _ _ _ _ _ _ => ⟨_, rfl⟩, fun _ _ _ _ _ _ _ _ _ _ _ _ _ _ _ => rfl⟩
theorem pp_21_5 : PP [97, 98, 98, 97] [98, 97] := ⟨fun _ => ⟨_, rfl⟩, fun _ => ⟨_, rfl⟩, fun _ _ _ _ _ _ _ _ _ _ _ _ _ _ => ⟨_, rfl⟩, fun _ _ _ _ _ _ _ _ _ _ _ _ _ _ _ => rfl⟩
theorem pp_21_6 : PP [97, 98, 98, 97] [98, 98] := ⟨fun _ => ⟨_, rfl⟩, fun _ => ⟨_, rfl⟩, fun _ _ _ _ _ _ _ _ _ _ _ _ _ _ => ⟨_, rfl⟩, fun _ _ _ _ _ _ _ _ _ _ _ _ _ _ _ => rfl⟩
theorem pp_21_7 : PP [97, 98, 98, 97] [97, 97, 97] := ⟨fun _ => ⟨_, rfl⟩, fun _ => ⟨_, rfl⟩, fun _ _ _ _ _ _ _ _ _ _ _ _ _ _ => ⟨_, rfl⟩, fun _ _ _ _ _ _ _ _ _ _ _ _ _ _ _ => rfl⟩
theorem pp_21_8 : PP [97, 98, 98, 97] [97, 97, 98] := ⟨fun _ => ⟨_, rfl⟩, fun _ => ⟨_, rfl⟩, fun _ _ _ _ _ _ _ _ _ _ _ _ _ _ => ⟨_, rfl⟩, fun _ _ _ _ _ _ _ _ _ _ _ _ _ _ _ => rfl⟩
theorem pp_21_9 : PP [97, 98, 98, 97] [97, 98, 97] := ⟨fun _ => ⟨_, rfl⟩, fun _ => ⟨_, rfl⟩, fun _ _ _ _ _ _ _ _ _ _ _ _ _ _ => ⟨_, rfl⟩, fun _ _ _ _ _ _ _ _ _ _ _ _ _ _ _ => rfl⟩
theorem pp_21_10 : PP [97, 98, 98, 97] [97, 98, 98] := ⟨fun _ => ⟨_, rfl⟩, fun _ => ⟨_, rfl⟩, fun _ _ _ _ _ _ _ _ _ _ _ _ _ _ => ⟨_, rfl⟩, fun _ _ _ _ _ _ _ _ _ _ _ _ _ _ _ => rfl⟩
theorem pp_21_11 : PP [97, 98, 98, 97] [98, 97, 97] := ⟨fun _ => ⟨_, rfl⟩, fun _ => ⟨_, rfl⟩, fun _ _ _ _ _ _ _ _ _ _ _ _ _ _ => ⟨_, rfl⟩, fun _ _ _ _ _ _ _ _ _ _ _ _ _ _ _ => rfl⟩
theorem pp_21_12 : PP [97, 98, 98, 97] [98, 97, 98] := ⟨fun _ => ⟨_, rfl⟩, fun _ => ⟨_, rfl⟩, fun _ _ _ _ _ _ _ _ _ _ _ _ _ _ => ⟨_, rfl⟩, fun _ _ _ _ _ _ _ _ _ _ _ _ _ _ _ => rfl⟩
theorem pp_21_13 : PP [97, 98, 98, 97] [98, 98, 97] := ⟨fun _ => ⟨_, rfl⟩, fun _ => ⟨_, rfl⟩, fun _ _ _ _ _ _ _ _ _ _ _ _ _ _ => ⟨_, rfl⟩, fun _ _ _ _ _ _ _ _ _ _ _ _ _ _ _ => rfl⟩
theorem pp_21_14 : PP [97, 98, 98, 97] [98, 98, 98] := ⟨fun _ => ⟨_, rfl⟩, fun _ => ⟨_, rfl⟩, fun _ _ _ _ _ _ _ _ _ _ _ _ _ _ => ⟨_, rfl⟩, fun _ _ _ _ _ _ _ _ _ _ _ _ _ _ _ => rfl⟩
theorem pp_21_15 : PP [97, 98, 98, 97] [97, 97, 97, 97] := ⟨fun _ => ⟨_, rfl⟩, fun _ => ⟨_, rfl⟩, fun _ _ _ _ _ _ _ _ _ _ _ _ _ _ => ⟨_, rfl⟩, fun _ _ _ _ _ _ _ _ _ _ _ _ _ _ _ => rfl⟩
theorem pp_21_16 : PP [97, 98, 98, 97] [97, 97, 97, 98] := ⟨fun _ => ⟨_, rfl⟩, fun _ => ⟨_, rfl⟩, fun _ _ _ _ _ _ _ _ _ _ _ _ _ _ => ⟨_, rfl⟩, fun _ _ _ _ _ _ _ _ _ _ _ _ _ _ _ => rfl⟩
theorem pp_21_17 : PP [97, 98, 98, 97] [97, 97, 98, 97] := ⟨fun _ => ⟨_, rfl⟩, fun _ => ⟨_, rfl⟩, fun _ _ _ _ _ _ _ _ _ _ _ _ _ _ => ⟨_, rfl⟩, fun _ _ _ _ _ _ _ _ _ _ _ _ _ _ _ => rfl⟩
theorem pp_21_18 : PP [97, 98, 98, 97] [97, 97, 98, 98] := ⟨fun _ => ⟨_, rfl⟩, fun _ => ⟨_, rfl⟩, fun _ _ _ _ _ _ _ _ _ _ _ _ _ _ => ⟨_, rfl⟩, fun _ _ _ _ _ _ _ _ _ _ _ _ _ _ _ => rfl⟩
theorem pp_21_19 : PP [97, 98, 98, 97] [97, 98, 97, 97] := ⟨fun _ => ⟨_, rfl⟩, fun _ => ⟨_, rfl⟩, fun _ _ _ _ _ _ _ _ _ _ _ _ _ _ => ⟨_, rfl⟩, fun _ _ _ _ _ _ _ _ _ _ _ _ _ _ _ => rfl⟩
theorem pp_21_20 : PP [97, 98, 98, 97] [97, 98, 97, 98] := ⟨fun _ => ⟨_, rfl⟩, fun _ => ⟨_, rfl⟩, fun _ _ _ _ _ _ _ _ _ _ _ _ _ _ => ⟨_, rfl⟩, fun _ _ _ _ _ _ _ _ _ _ _ _ _ _ _ => rfl⟩
theorem pp_21_21 : PP [97, 98, 98, 97] [97, 98, 98, 97] := ⟨fun _ => ⟨_, rfl⟩, fun _ => ⟨_, rfl⟩, fun _ _ _ _ _ _ _ _ _ _ _ _ _ _ => ⟨_, rfl⟩, fun _ _ _ _ _ _ _ _ _ _ _ _ _ _ _ => rfl⟩
theorem pp_21_22 : PP [97, 98, 98, 97] [97, 98, 98, 98] := ⟨fun _ => ⟨_, rfl⟩, fun _ => ⟨_, rfl⟩, fun _ _ _ _ _ _ _ _ _ _ _ _ _ _ => ⟨_, rfl⟩, fun _ _ _ _ _ _ _ _ _ _ _ _ _ _ _ => rfl⟩
theorem pp_21_23 : PP [97, 98, 98, 97] [98, 97, 97, 97] := ⟨fun _ => ⟨_, rfl⟩, fun _ => ⟨_, rfl⟩, fun _ _ _ _ _ _ _ _ _ _ _ _ _ _ => ⟨_, rfl⟩, fun _ _ _ _ _ _ _ _ _ _ _ _ _ _ _ => rfl⟩
theorem pp_21_24 : PP [97, 98, 98, 97] [98, 97, 97, 98] := ⟨fun _ => ⟨_, rfl⟩, fun _ => ⟨_, rfl⟩, fun _ _ _ _ _ _ _ _ _ _ _ _ _ _ => ⟨_, rfl⟩, fun _ _ _ _ _ _ _ _ _ _ _ _ _ _ _ => rfl⟩
theorem pp_21_25 : PP [97, 98, 98, 97] [98, 97, 98, 97] := ⟨fun _ => ⟨_, rfl⟩, fun _ => ⟨_, rfl⟩, fun _ _ _ _ _ _ _ _ _ _ _ _ _ _ => ⟨_, rfl⟩, fun _ _ _ _ _ _ _ _ _ _ _ _ _ _ _ => rfl⟩
theorem pp_21_26 : PP [97, 98, 98, 97] [98, 97, 98, 98] := ⟨fun _ => ⟨_, rfl⟩, fun _ => ⟨_, rfl⟩, fun _ _ _ _ _ _ _ _ _ _ _ _ _ _ => ⟨_, rfl⟩, fun _ _ _ _ _ _ _ _ _ _ _ _ _ _ _ => rfl⟩
theorem pp_21_27 : PP [97, 98, 98, 97] [98, 98, 97, 97] := ⟨fun _ => ⟨_, rfl⟩, fun _ => ⟨_, rfl⟩, fun _ _ _ _ _ _ _ _ _ _ _ _ _ _ => ⟨_, rfl⟩, fun _ _ _ _ _ _ _ _ _ _ _ _ _ _ _ => rfl⟩
theorem pp_21_28 : PP [97, 98, 98, 97] [98, 98, 97, 98] := ⟨fun _ => ⟨_, rfl⟩, fun _ => ⟨_, rfl⟩, fun _ _ _ _ _ _ _ _ _ _ _ _ _ _ => ⟨_, rfl⟩, fun _ _ _ _ _ _ _ _ _ _ _ _ _ _ _ => rfl⟩
theorem pp_21_29 : PP [97, 98, 98, 97] [98, 98, 98, 97] := ⟨fun _ => ⟨_, rfl⟩, fun _ => ⟨_, rfl⟩, fun _ _ _ _ _ _ _ _ _ _ _ _ _ _ => ⟨_, rfl⟩, fun _ _ _ _ _ _ _ _ _ _ _ _ _ _ _ => rfl⟩
theorem pp_21_30 : PP [97, 98, 98, 97] [98, 98, 98, 98] := ⟨fun _ => ⟨_, rfl⟩, fun _ => ⟨_, rfl⟩, fun _ _ _ _ _ _ _ _ _ _ _ _ _ _ => ⟨_, rfl⟩, fun _ _ _ _ _ _ _ _ _ _ _ _ _ _ _ => rfl⟩
theorem pp_22_0 : PP [97, 98, 98, 98] [] := ⟨fun _ => ⟨_, rfl⟩, fun _ => ⟨_, rfl⟩, fun _ _ _ _ _ _ _ _ _ _ _ _ _ _ => ⟨_, rfl⟩, fun _ _ _ _ _ _ _ _ _ _ _ _ _ _ _ => rfl⟩
theorem pp_22_1 : PP [97, 98, 98, 98] [97] := ⟨fun _ => ⟨_, rfl⟩, fun _ => ⟨_, rfl⟩, fun _ _ _ _ _ _ _ _ _ _ _ _ _ _ => ⟨_, rfl⟩, fun _ _ _ _ _ _ _ _ _ _ _ _ _ _ _ => rfl⟩
theorem pp_22_2 : PP [97, 98, 98, 98] [98] := ⟨fun _ => ⟨_, rfl⟩, fun _ => ⟨_, rfl⟩, fun _ _ _ _ _ _ _ _ _ _ _ _ _ _ => ⟨_, rfl⟩, fun _ _ _ _ _ _ _ _ _ _ _ _ _ _ _ => rfl⟩
theorem pp_22_3 : PP [97, 98, 98, 98] [97, 97] := ⟨fun _ => ⟨_, rfl⟩, fun _ => ⟨_, rfl⟩, fun _ _ _ _ _ _ _ _ _ _ _ _ _ _ => ⟨_, rfl⟩, fun _ _ _ _ _ _ _ _ _ _ _ _ _ _ _ => rfl⟩
theorem pp_22_4 : PP [97, 98, 98, 98] [97, 98] := ⟨fun _ => ⟨_, rfl⟩, fun _ => ⟨_, rfl⟩, fun _ _ _ _ _ _ _ _ _ _ _ _ _ _ => ⟨_, rfl⟩, fun _ _ _ _ _ _ _ _ _ _ _ _ _ _ _ => rfl⟩
theorem pp_22_5 : PP [97, 98, 98, 98] [98, 97] := ⟨fun _ => ⟨_, rfl⟩, fun _ => ⟨_, rfl⟩, fun _ _ _ _ _ _ _ _ _ _ _ _ _ _ => ⟨_, rfl⟩, fun _ _ _ _ _ _ _ _ _ _ _ _ _ _ _ => rfl⟩
theorem pp_22_6 : PP [97, 98, 98, 98] [98, 98] := ⟨fun _ => ⟨_, rfl⟩, fun _ => ⟨_, rfl⟩, fun _ _ _ _ _ _ _ _ _ _ _ _ _ _ => ⟨_, rfl⟩, fun _ _ _ _ _ _ _ _ _ _ _ _ _ _ _ => rfl⟩
theorem pp_22_7 : PP [97, 98, 98, 98] [97, 97, 97] := ⟨fun _ => ⟨_, rfl⟩, fun _ => ⟨_, rfl⟩, fun _ _ _ _ _ _ _ _ _ _ _ _ _ _ => ⟨_, rfl⟩, fun _ _ _ _ _ _ _ _ _ _ _ _ _ _ _ => rfl⟩
theorem pp_22_8 : PP [97, 98, 98, 98] [97, 97, 98] := ⟨fun _ => ⟨_, rfl⟩, fun _ => ⟨_, rfl⟩, fun _ _ _ _ _ _ _ _ _ _ _ _ _ _ => ⟨_, rfl⟩, fun _ _ _ _ _ _ _ _ _ _ _ _ _ _ _ => rfl⟩
theorem pp_22_9 : PP [97, 98, 98, 98] [97, 98, 97] := ⟨fun _ => ⟨_, rfl⟩, fun _ => ⟨_, rfl⟩, fun _ _ _ _ _ _ _ _ _ _ _ _ _ _ => ⟨_, rfl⟩, fun _ _ _ _ _ _ _ _ _ _ _ _ _ _ _ => rfl⟩
theorem pp_22_10 : PP [97, 98, 98, 98] [97, 98, 98] := ⟨fun _ => ⟨_, rfl⟩, fun _ => ⟨_, rfl⟩, fun _ _ _ _ _ _ _ _ _ _ _ _ _ _ => ⟨_, rfl⟩, fun _ _ _ _ _ _ _ _ _ _ _ _ _ _ _ => rfl⟩
theorem pp_22_11 : PP [97, 98, 98, 98] [98, 97, 97] := ⟨fun _ => ⟨_, rfl⟩, fun _ => ⟨_, rfl⟩, fun _ _ _ _ _ _ _ _ _ _ _ _ _ _ => ⟨_, rfl⟩, fun _ _ _ _ _ _ _ _ _ _ _ _ _ _ _ => rfl⟩
theorem pp_22_12 : PP [97, 98, 98, 98] [98, 97, 98] := ⟨fun _ => ⟨_, rfl⟩, fun _ => ⟨_, rfl⟩, fun _ _ _ _ _ _ _ _ _ _ _ _ _ _ => ⟨_, rfl⟩, fun _ _ _ _ _ _ _ _ _ _ _ _ _ _ _ => rfl⟩
theorem pp_22_13 : PP [97, 98, 98, 98] [98, 98, 97] := ⟨fun _ => ⟨_, rfl⟩, fun _ => ⟨_, rfl⟩, fun _ _ _ _ _ _ _ _ _ _ _ _ _ _ => ⟨_, rfl⟩, fun _ _ _ _ _ _ _ _ _ _ _ _ _ _ _ => rfl⟩
theorem pp_22_14 : PP [97, 98, 98, 98] [98, 98, 98] := ⟨fun _ => ⟨_, rfl⟩, fun _ => ⟨_, rfl⟩, fun _ _ _ _ _ _ _ _ _ _ _ _ _ _ => ⟨_, rfl⟩, fun _ _ _ _ _ _ _ _ _ _ _ _ _ _ _ => rfl⟩
theorem pp_22_15 : PP [97, 98, 98, 98] [97, 97, 97, 97] := ⟨fun _ => ⟨_, rfl⟩, fun _ => ⟨_, rfl⟩, fun _ _ _ _ _ _ _ _ _ _ _ _ _ _ => ⟨_, rfl⟩, fun _ _ _ _ _ _ _ _ _ _ _ _ _ _ _ => rfl⟩
theorem pp_22_16 : PP [97, 98, 98, 98] [97, 97, 97, 98] := ⟨fun _ => ⟨_, rfl⟩, fun _ => ⟨_, rfl⟩, fun _ _ _ _ _ _ _ _ _ _ _ _ _ _ => ⟨_, rfl⟩, fun _ _ _ _ _ _ _ _ _ _ _ _ _ _ _ => rfl⟩
theorem pp_22_17 : PP [97, 98, 98, 98] [97, 97, 98, 97] := ⟨fun _ => ⟨_, rfl⟩, fun _ => ⟨_, rfl⟩, fun _ _ _ _ _ _ _ _ _ _ _ _ _ _ => ⟨_, rfl⟩, fun _ _ _ _ _ _ _ _ _ _ _ _ _ _ _ => rfl⟩
theorem pp_22_18 : PP [97, 98, 98, 98] [97, 97, 98, 98] := ⟨fun _ => ⟨_, rfl⟩, fun _ => ⟨_, rfl⟩, fun _ _ _ _ _ _ _ _ _ _ _ _ _ _ => ⟨_, rfl⟩, fun _ _ _ _ _ _ _ _ _ _ _ _ _ _ _ => rfl⟩
theorem pp_22_19 : PP [97, 98, 98, 98] [97, 98, 97, 97] := ⟨fun _ => ⟨_, rfl⟩, fun _ => ⟨_, rfl⟩, fun _ _ _ _ _ _ _ _ _ _ _ _ _ _ => ⟨_, rfl⟩, fun _ _ _ _ _ _ _ _ _ _ _ _ _ _ _ => rfl⟩
theorem pp_22_20 : PP [97, 98, 98, 98] [97, 98, 97, 98] := ⟨fun _ => ⟨_, rfl⟩, fun _ => ⟨_, rfl⟩, fun _ _ _ _ _ _ _ _ _ _ _ _ _ _ => ⟨_, rfl⟩, fun _ _ _ _ _ _ _ _ _ _ _ _ _ _ _ => rfl⟩
theorem pp_22_21 : PP [97, 98, 98, 98] [97, 98, 98, 97] := ⟨fun _ => ⟨_, rfl⟩, fun _ => ⟨_, rfl⟩, fun _ _ _ _ _ _ _ _ _ _ _ _ _ _ => ⟨_, rfl⟩, fun _ _ _ _ _ _ _ _ _ _ _ _ _ _ _ => rfl⟩
theorem pp_22_22 : PP [97, 98, 98, 98] [97, 98, 98, 98] := ⟨fun _ => ⟨_, rfl⟩, fun _ => ⟨_, rfl⟩, fun _ _ _ _ _ _ _ _ _ _ _ _ _ _ => ⟨_, rfl⟩, fun _ _ _ _ _ _ _ _ _ _ _ _ _ _ _ => rfl⟩
theorem pp_22_23 : PP [97, 98, 98, 98] [98, 97, 97, 97] := ⟨fun _ => ⟨_, rfl⟩, fun _ => ⟨_, rfl⟩, fun _ _ _ _ _ _ _ _ _ _ _ _ _ _ => ⟨_, rfl⟩, fun _ _ _ _ _ _ _ _ _ _ _ _ _ _ _ => rfl⟩
theorem pp_22_24 : PP [97, 98, 98, 98] [98, 97, 97, 98] := ⟨fun _ => ⟨_, rfl⟩, fun _ => ⟨_, rfl⟩, fun _ _ _ _ _ _ _ _ _ _ _ _ _ _ => ⟨_, rfl⟩, fun _ _ _ _ _ _ _ _ _ _ _ _ _ _ _ => rfl⟩
theorem pp_22_25 : PP [97, 98, 98, 98] [98, 97, 98, 97] := ⟨fun _ => ⟨_, rfl⟩, fun _ => ⟨_, rfl⟩, fun _ _ _ _ _ _ _ _ _ _ _ _ _ _ => ⟨_, rfl⟩, fun _ _ _ _ _ _ _ _ _ _ _ _ _ _ _ => rfl⟩
theorem pp_22_26 : PP [97, 98, 98, 98] [98, 97, 98, 98] := ⟨fun _ => ⟨_, rfl⟩, fun _ => ⟨_, rfl⟩, fun _ _ _ _ _ _ _ _ _ _ _ _ _ _ => ⟨_, rfl⟩, fun _ _ _ _ _ _ _ _ _ _ _ _ _ _ _ => rfl⟩
theorem pp_22_27 : PP [97, 98, 98, 98] [98, 98, 97, 97] := ⟨fun _ => ⟨_, rfl⟩, fun _ => ⟨_, rfl⟩, fun _ _ _ _ _ _ _ _ _ _ _ _ _ _ => ⟨_, rfl⟩, fun _ _ _ _ _ _ _ _ _ _ _ _ _ _ _ => rfl⟩
theorem pp_22_28 : PP [97, 98, 98, 98] [98, 98, 97, 98] := ⟨fun _ => ⟨_, rfl⟩, fun _ => ⟨_, rfl⟩, fun _ _ _ _ _ _ _ _ _ _ _ _ _ _ => ⟨_, rfl⟩, fun _ _ _ _ _ _ _ _ _ _ _ _ _ _ _ => rfl⟩
theorem pp_22_29 : PP [97, 98, 98, 98] [98, 98, 98, 97] := ⟨fun _ => ⟨_, rfl⟩, fun _ => ⟨_, rfl⟩, fun _ _ _ _ _ _ _ _ _ _ _ _ _ _ => ⟨_, rfl⟩, fun _ _ _ _ _ _ _ _ _ _ _ _ _ _ _ => rfl⟩
theorem pp_22_30 : PP [97, 98, 98, 98] [98, 98, 98, 98] := ⟨fun _ => ⟨_, rfl⟩, fun _ => ⟨_, rfl⟩, fun _ _ _ _ _ _ _ _ _ _ _ _ _ _ => ⟨_, rfl⟩, fun _ _ _ _ _ _ _ _ _ _ _ _ _ _ _ => rfl⟩
theorem pp_23_0 : PP [98, 97, 97, 97] [] := ⟨fun _ => ⟨_, rfl⟩, fun _ => ⟨_, rfl⟩, fun _ _ _ _ _ _ _ _ _ _ _ _ _ _ => ⟨_, rfl⟩, fun _ _ _ _ _ _ _ _ _ _ _ _ _ _ _ => rfl⟩
theorem pp_23_1 : PP [98, 97, 97, 97] [97] := ⟨fun _ => ⟨_, rfl⟩, fun _ => ⟨_, rfl⟩, fun _ _ _ _ _ _ _ _ _ _ _ _ _ _ => ⟨_, rfl⟩, fun _ _ _ _ _ _ _ _ _ _ _ _ _ _ _ => rfl⟩
theorem pp_23_2 : PP [98, 97, 97, 97] [98] := ⟨fun _ => ⟨_, rfl⟩, fun _ => ⟨_, rfl⟩, fun _ _ _ _ _ _ _ _ _ _ _ _ _ _ => ⟨_, rfl⟩, fun _ _ _ _ _ _ _ _ _ _ _ _ _ _ _ => rfl⟩
theorem pp_23_3 : PP [98, 97, 97, 97] [97, 97] := ⟨fun _ => ⟨_, rfl⟩, fun _ => ⟨_, rfl⟩, fun _ _ _ _ _ _ _ _ _ _ _ _ _ _ => ⟨_, rfl⟩, fun _ _ _ _ _ _ _ _ _ _ _ _ _ _ _ => rfl⟩
theorem pp_23_4 : PP [98, 97, 97, 97] [97, 98] := ⟨fun _ => ⟨_, rfl⟩, fun _ => ⟨_, rfl⟩, fun _ _ _ _ _ _ _ _ _ _ _ _ _ _ => ⟨_, rfl⟩, fun _ _ _ _ _ _ _ _ _ _ _ _ _ _ _ => rfl⟩
theorem pp_23_5 : PP [98, 97, 97, 97] [98, 97] := ⟨fun _ => ⟨_, rfl⟩, fun _ => ⟨_, rfl⟩, fun _ _ _ _ _ _ _ _ _ _ _ _ _ _ => ⟨_, rfl⟩, fun _ _ _ _ _ _ _ _ _ _ _ _ _ _ _ => rfl⟩
theorem pp_23_6 : PP [98, 97, 97, 97] [98, 98] := ⟨fun _ => ⟨_, rfl⟩, fun _ => ⟨_, rfl⟩, fun _ _ _ _ _ _ _ _ _ _ _ _ _ _ => ⟨_, rfl⟩, fun _ _ _ _ _ _ _ _ _ _ _ _ _ _ _ => rfl⟩
theorem pp_23_7 : PP [98, 97, 97, 97] [97, 97, 97] := ⟨fun _ => ⟨_, rfl⟩, fun _ => ⟨_, rfl⟩, fun _ _ _ _ _ _ _ _ _ _ _ _ _ _ => ⟨_, rfl⟩, fun _ _ _ _ _ _ _ _ _ _ _ _ _ _ _ => rfl⟩
theorem pp_23_8 : PP [98, 97, 97, 97] [97, 97, 98] := ⟨fun _ => ⟨_, rfl⟩, fun _ => ⟨_, rfl⟩, fun _ _ _ _ _ _ _ _ _ _ _ _ _ _ => ⟨_, rfl⟩, fun _ _ _ _ _ _ _ _ _ _ _ _ _ _ _ => rfl⟩
theorem pp_23_9 : PP [98, 97, 97, 97] [97, 98, 97] := ⟨fun _ => ⟨_, rfl⟩, fun _ => ⟨_, rfl⟩, fun _ _ _ _ _ _ _ _ _ _ _ _ _ _ => ⟨_, rfl⟩, fun _ _ _ _ _ _ _ _ _ _ _ _ _ _ _ => rfl⟩
theorem pp_23_10 : PP [98, 97, 97, 97] [97, 98, 98] := ⟨fun _ => ⟨_, rfl⟩, fun _ => ⟨_, rfl⟩, fun _ _ _ _ _ _ _ _ _ _ _ _ _ _ => ⟨_, rfl⟩, fun _ _ _ _ _ _ _ _ _ _ _ _ _ _ _ => rfl⟩
theorem pp_23_11 : PP [98, 97, 97, 97] [98, 97, 97] := ⟨fun _ => ⟨_, rfl⟩, fun _ => ⟨_, rfl⟩, fun _ _ _ _ _ _ _ _ _ _ _ _ _ _ => ⟨_, rfl⟩, fun _ _ _ _ _ _ _ _ _ _ _ _ _ _ _ => rfl⟩
theorem pp_23_12 : PP [98, 97, 97, 97] [98, 97, 98] := ⟨fun _ => ⟨_, rfl⟩, fun _ => ⟨_, rfl⟩, fun _ _ _ _ _ _ _ _ _ _ _ _ _ _ => ⟨_, rfl⟩, fun _ _ _ _ _ _ _ _ _ _ _ _ _ _ _ => rfl⟩
theorem pp_23_13 : PP [98, 97, 97, 97] [98, 98, 97] := ⟨fun _ => ⟨_, rfl⟩, fun _ => ⟨_, rfl⟩, fun _ _ _ _ _ _ _ _ _ _ _ _ _ _ => ⟨_, rfl⟩, fun _ _ _ _ _ _ _ _ _ _ _ _ _ _ _ => rfl⟩
theorem pp_23_14 : PP [98, 97, 97, 97] [98, 98, 98] := ⟨fun _ => ⟨_, rfl⟩, fun _ => ⟨_, rfl⟩, fun _ _ _ _ _ _ _ _ _ _ _ _ _ _ => ⟨_, rfl⟩, fun _ _ _ _ _ _ _ _ _ _ _ _ _ _ _ => rfl⟩
theorem pp_23_15 : PP [98, 97, 97, 97] [97, 97, 97, 97] := ⟨fun _ => ⟨_, rfl⟩, fun _ => ⟨_, rfl⟩, fun _ _ _ _ _ _ _ _ _ _ _ _ _ _ => ⟨_, rfl⟩, fun _ _ _ _ _ _ _ _ _ _ _ _ _ _ _ => rfl⟩
theorem pp_23_16 : PP [98, 97, 97, 97] [97, 97, 97, 98] := ⟨fun _ => ⟨_, rfl⟩, fun _ => ⟨_, rfl⟩, fun _ _ _ _ _ _ _ _ _ _ _ _ _ _ => ⟨_, rfl⟩, fun _ _ _ _ _ _ _ _ _ _ _ _ _ _ _ => rfl⟩
theorem pp_23_17 : PP [98, 97, 97, 97] [97, 97, 98, 97] := ⟨fun _ => ⟨_, rfl⟩, fun _ => ⟨_, rfl⟩, fun _ _ _ _ _ _ _ _ _ _ _ _ _ _ => ⟨_, rfl⟩, fun _ _ _ _ _ _ _ _ _ _ _ _ _ _ _ => rfl⟩
theorem pp_23_18 : PP [98, 97, 97, 97] [97, 97, 98, 98] := ⟨fun _ => ⟨_, rfl⟩, fun _ => ⟨_, rfl⟩, fun _ _ _ _ _ _ _ _ _ _ _ _ _ _ => ⟨_, rfl⟩, fun _ _ _ _ _ _ _ _ _ _ _ _ _ _ _ => rfl⟩
theorem pp_23_19 : PP [98, 97, 97, 97] [97, 98, 97, 97] := ⟨fun _ => ⟨_, rfl⟩, fun _ => ⟨_, rfl⟩, fun _ _ _ _ _ _ _ _ _ _ _ _ _ _ => ⟨_, rfl⟩, fun _ _ _ _ _ _ _ _ _ _ _ _ _ _ _ => rfl⟩
theorem pp_23_20 : PP [98, 97, 97, 97] [97, 98, 97, 98] := ⟨fun _ => ⟨_, rfl⟩, fun _ => ⟨_, rfl⟩, fun _ _ _ _ _ _ _ _ _ _ _ _ _ _ => ⟨_, rfl⟩, fun _ _ _ _ _ _ _ _ _ _ _ _ _ _ _ => rfl⟩
theorem pp_23_21 : PP [98, 97, 97, 97] [97, 98, 98, 97] := ⟨fun _ => ⟨_, rfl⟩, fun _ => ⟨_, rfl⟩, fun _ _ _ _ _ _ _ _ _ _ _ _ _ _ => ⟨_, rfl⟩, fun _ _ _ _ _ _ _ _ _ _ _ _ _ _ _ => rfl⟩
theorem pp_23_22 : PP [98, 97, 97, 97] [97, 98, 98, 98] := ⟨fun _ => ⟨_, rfl⟩, fun _ => ⟨_, rfl⟩, fun _ _ _ _ _ _ _ _ _ _ _ _ _ _ => ⟨_, rfl⟩, fun _ _ _ _ _ _ _ _ _ _ _ _ _ _ _ => rfl⟩
theorem pp_23_23 : PP [98, 97, 97, 97] [98, 97, 97, 97] := ⟨fun _ => ⟨_, rfl⟩, fun _ => ⟨_, rfl⟩, fun _ _ _ _ _ _ _ _ _ _ _ _ _ _ => ⟨_, rfl⟩, fun _ _ _ _ _ _ _ _ _ _ _ _ _ _ _ => rfl⟩
theorem pp_23_24 : PP [98, 97, 97, 97] [98, 97, 97, 98] := ⟨fun _ => ⟨_, rfl⟩, fun _ => ⟨_, rfl⟩, fun _ _ _ _ _ _ _ _ _ _ _ _ _ _ => ⟨_, rfl⟩, fun _ _ _ _ _ _ _ _ _ _ _ _ _ _ _ => rfl⟩
theorem pp_23_25 : PP [98, 97, 97, 97] [98, 97, 98, 97] := ⟨fun _ => ⟨_, rfl⟩, fun _ => ⟨_, rfl⟩, fun _ _ _ _ _ _ _ _ _ _ _ _ _ _ => ⟨_, rfl⟩, fun _ _ _ _ _ _ _ _ _ _ _ _ _ _ _ => rfl⟩
theorem pp_23_26 : PP [98, 97, 97, 97] [98, 97, 98, 98] := ⟨fun _ => ⟨_, rfl⟩, fun _ => ⟨_, rfl⟩, fun _ _ _ _ _ _ _ _ _ _ _ _ _ _ => ⟨_, rfl⟩, fun _ _ _ _ _ _ _ _ _ _ _ _ _ _ _ => rfl⟩
theorem pp_23_27 : PP [98, 97, 97, 97] [98, 98, 97, 97] := ⟨fun _ => ⟨_, rfl⟩, fun _ => ⟨_, rfl⟩, fun _ _ _ _ _ _ _ _ _ _ _ _ _ _ => ⟨_, rfl⟩, fun _ _ _ _ _ _ _ _ _ _ _ _ _ _ _ => rfl⟩
theorem pp_23_28 : PP [98, 97, 97, 97] [98, 98, 97, 98] := ⟨fun _ => ⟨_, rfl⟩, fun _ => ⟨_, rfl⟩, fun _ _ _ _ _ _ _ _ _ _ _ _ _ _ => ⟨_, rfl⟩, fun _ _ _ _ _ _ _ _ _ _ _ _ _ _ _ => rfl⟩
theorem pp_23_29 : PP [98, 97, 97, 97] [98, 98, 98, 97] := ⟨fun _ => ⟨_, rfl⟩, fun _ => ⟨_, rfl⟩, fun _ _ _ _ _ _ _ _ _ _ _ _ _ _ => ⟨_, rfl⟩, fun _ _ _ _ _ _ _ _ _ _ _ _ _ _ _ => rfl⟩
theorem pp_23_30 : PP [98, 97, 97, 97] [98, 98, 98, 98] := ⟨fun _ => ⟨_, rfl⟩, fun _ => ⟨_, rfl⟩, fun _ _ _ _ _ _ _ _ _ _ _ _ _ _ => ⟨_, rfl⟩, fun _ _ _ _ _ _ _ _ _ _ _ _ _ _ _ => rfl⟩
theorem pp_24_0 : PP [98, 97, 97, 98] [] := ⟨fun _ => ⟨_, rfl⟩, fun _ => ⟨_, rfl⟩, fun _ _ _ _ _ _ _ _ _ _ _ _ _ _ => ⟨_, rfl⟩, fun _ _ _ _ _ _ _ _ _ _ _ _ _ _ _ => rfl⟩
theorem pp_24_1 : PP [98, 97, 97, 98] [97] := ⟨fun _ => ⟨_, rfl⟩, fun _ => ⟨_, rfl⟩, fun _ _ _ _ _ _ _ _ _ _ _ _ _ _ => ⟨_, rfl⟩, fun _ _ _ _ _ _ _ _ _ _ _ _ _ _ _ => rfl⟩
theorem pp_24_2 : PP [98, 97, 97, 98] [98] := ⟨fun _ => ⟨_, rfl⟩, fun _ => ⟨_, rfl⟩, fun _ _ _ _ _ _ _ _ _ _ _ _ _ _ => ⟨_, rfl⟩, fun _ _ _ _ _ _ _ _ _ _ _ _ _ _ _ => rfl⟩
theorem pp_24_3 : PP [98, 97, 97, 98] [97, 97] := ⟨fun _ => ⟨_, rfl⟩, fun _ => ⟨_, rfl⟩, fun _ _ _ _ _ _ _ _ _ _ _ _ _ _ => ⟨_, rfl⟩, fun _ _ _ _ _ _ _ _ _ _ _ _ _ _ _ => rfl⟩
theorem pp_24_4 : PP [98, 97, 97, 98] [97, 98] := ⟨fun _ => ⟨_, rfl⟩, fun _ => ⟨_, rfl⟩, fun _ _ _ _ _ _ _ _ _ _ _ _ _ _ => ⟨_, rfl⟩, fun _ _ _ _ _ _ _ _ _ _ _ _ _ _ _ => rfl⟩
theorem pp_24_5 : PP [98, 97, 97, 98] [98, 97] := ⟨fun _ => ⟨_, rfl⟩, fun _ => ⟨_, rfl⟩, fun _ _ _ _ _ _ _ _ _ _ _ _ _ _ => ⟨_, rfl⟩, fun _ _ _ _ _ _ _ _ _ _ _ _ _ _ _ => rfl⟩
theorem pp_24_6 : PP [98, 97, 97, 98] [98, 98] := ⟨fun _ => ⟨_, rfl⟩, fun _ => ⟨_, rfl⟩, fun _ _ _ _ _ _ _ _ _ _ _ _ _ _ => ⟨_, rfl⟩, fun _ _ _ _ _ _ _ _ _ _ _ _ _ _ _ => rfl⟩
theorem pp_24_7 : PP [98, 97, 97, 98] [97, 97, 97] := ⟨fun _ => ⟨_, rfl⟩, fun _ => ⟨_, rfl⟩, fun _ _ _ _ _ _ _ _ _ _ _ _ _ _ => ⟨_, rfl⟩, fun _ _ _ _ _ _ _ _ _ _ _ _ _ _ _ => rfl⟩
theorem pp_24_8 : PP [98, 97, 97, 98] [97, 97, 98] := ⟨fun _ => ⟨_, rfl⟩, fun _ => ⟨_, rfl⟩, fun _ _ _ _ _ _ _ _ _ _ _ _ _ _ => ⟨_, rfl⟩, fun _ _ _ _ _ _ _ _ _ _ _ _ _ _ _ => rfl⟩
theorem pp_24_9 : PP [98, 97, 97, 98] [97, 98, 97] := ⟨fun _ => ⟨_, rfl⟩, fun _ => ⟨_, rfl⟩, fun _ _ _ _ _ _ _ _ _ _ _ _ _ _ => ⟨_, rfl⟩, fun _ _ _ _ _ _ _ _ _ _ _ _ _ _ _ => rfl⟩
theorem pp_24_10 : PP [98, 97, 97, 98] [97, 98, 98] := ⟨fun _ => ⟨_, rfl⟩, fun _ => ⟨_, rfl⟩, fun _ _ _ _ _ _ _ _ _ _ _ _ _ _ => ⟨_, rfl⟩, fun _ _ _ _ _ _ _ _ _ _ _ _ _ _ _ => rfl⟩
theorem pp_24_11 : PP [98, 97, 97, 98] [98, 97, 97] := ⟨fun _ => ⟨_, rfl⟩, fun _ => ⟨_, rfl⟩, fun _ _ _ _ _ _ _ _ _ _ _ _ _ _ => ⟨_, rfl⟩, fun _ _ _ _ _ _ _ _ _ _ _ _ _ _ _ => rfl⟩
theorem pp_24_12 : PP [98, 97, 97, 98] [98, 97, 98] := ⟨fun _ => ⟨_, rfl⟩, fun _ => ⟨_, rfl⟩, fun _ _ _ _ _ _ _ _ _ _ _ _ _ _ => ⟨_, rfl⟩, fun _ _ _ _ _ _ _ _ _ _ _ _ _ _ _ => rfl⟩
theorem pp_24_13 : PP [98, 97, 97, 98] [98, 98, 97] := ⟨fun _ => ⟨_, rfl⟩, fun _ => ⟨_, rfl⟩, fun _ _ _ _ _ _ _ _ _ _ _ _ _ _ => ⟨_, rfl⟩, fun _ _ _ _ _ _ _ _ _ _ _ _ _ _ _ => rfl⟩
theorem pp_24_14 : PP [98, 97, 97, 98] [98, 98, 98] := ⟨fun _ => ⟨_, rfl⟩, fun _ => ⟨_, rfl⟩, fun _ _ _ _ _ _ _ _ _ _ _ _ _ _ => ⟨_, rfl⟩, fun _ _ _ _ _ _ _ _ _ _ _ _ _ _ _ => rfl⟩
theorem pp_24_15 : PP [98, 97, 97, 98] [97, 97, 97, 97] := ⟨fun _ => ⟨_, rfl⟩, fun _ => ⟨_, rfl⟩, fun _ _ _ _ _ _ _ _ _ _ _ _ _ _ => ⟨_, rfl⟩, fun _ _ _ _ _ _ _ _ _ _ _ _ _ _ _ => rfl⟩
theorem pp_24_16 : PP [98, 97, 97, 98] [97, 97, 97, 98] := ⟨fun _ => ⟨_, rfl⟩, fun _ => ⟨_, rfl⟩, fun _ _ _ _ _ _ _ _ _ _ _ _ _ _ => ⟨_, rfl⟩, fun _ _ _ _ _ _ _ _ _ _ _ _ _ _ _ => rfl⟩
theorem pp_24_17 : PP [98, 97, 97, 98] [97, 97, 98, 97] := ⟨fun _ => ⟨_, rfl⟩, fun _ => ⟨_, rfl⟩, fun _ _ _ _ _ _ _ _ _ _ _ _ _ _ => ⟨_, rfl⟩, fun _ _ _ _ _ _ _ _ _ _ _ _ _ _ _ => rfl⟩
theorem pp_24_18 : PP [98, 97, 97, 98] [97, 97, 98, 98] := ⟨fun _ => ⟨_, rfl⟩, fun _ => ⟨_, rfl⟩, fun _ _ _ _ _ _ _ _ _ _ _ _ _ _ => ⟨_, rfl⟩, fun _ _ _ _ _ _ _ _ _ _ _ _ _ _ _ => rfl⟩
theorem pp_24_19 : PP [98, 97, 97, 98] [97, 98, 97, 97] := ⟨fun _ => ⟨_, rfl⟩, fun _ => ⟨_, rfl⟩, fun _ _ _ _ _ _ _ _ _ _ _ _ _ _ => ⟨_, rfl⟩, fun _ _ _ _ _ _ _ _ _ _ _ _ _ _ _ => rfl⟩
theorem pp_24_20 : PP [98, 97, 97, 98] [97, 98, 97, 98] := ⟨fun _ => ⟨_, rfl⟩, fun _ => ⟨_, rfl⟩, fun _ _ _ _ _ _ _ _ _ _ _ _ _ _ => ⟨_, rfl⟩, fun _ _ _ _ _ _ _ _ _ _ _ _ _ _ _ => rfl⟩
theorem pp_24_21 : PP [98, 97, 97, 98] [97, 98, 98, 97] := ⟨fun _ => ⟨_, rfl⟩, fun _ => ⟨_, rfl⟩, fun _ _ _ _ _ _ _ _ _ _ _ _ _ _ => ⟨_, rfl⟩, fun _ _ _ _ _ _ _ _ _ _ _ _ _ _ _ => rfl⟩
theorem pp_24_22 : PP [98, 97, 97, 98] [97, 98, 98, 98] := ⟨fun _ => ⟨_, rfl⟩, fun _ => ⟨_, rfl⟩, fun _ _ _ _ _ _ _ _ _ _ _ _ _ _ => ⟨_, rfl⟩, fun _ _ _ _ _ _ _ _ _ _ _ _ _ _ _ => rfl⟩
theorem pp_24_23 : PP [98, 97, 97, 98] [98, 97, 97, 97] := ⟨fun _ => ⟨_, rfl⟩, fun _ => ⟨_, rfl⟩, fun _ _ _ _ _ _ _ _ _ _ _ _ _ _ => ⟨_, rfl⟩, fun _ _ _ _ _ _ _ _ _ _ _ _ _ _ _ => rfl⟩
theorem pp_24_24 : PP [98, 97, 97, 98] [98, 97, 97, 98] := ⟨fun _ => ⟨_, rfl⟩, fun _ => ⟨_, rfl⟩, fun _ _ _ _ _ _ _ _ _ _ _ _ _ _ => ⟨_, rfl⟩, fun _ _ _ _ _ _ _ _ _ _ _ _ _ _ _ => rfl⟩
theorem pp_24_25 : PP [98, 97, 97, 98] [98, 97, 98, 97] := ⟨fun _ => ⟨_, rfl⟩, fun _ => ⟨_, rfl⟩, fun _ _ _ _ _ _ _ _ _ _ _ _ _ _ => ⟨_, rfl⟩, fun _ _ _ _ _ _ _ _ _ _ _ _ _ _ _ => rfl⟩
theorem pp_24_26 : PP [98, 97, 97, 98] [98, 97, 98, 98] := ⟨fun _ => ⟨_, rfl⟩, fun _ => ⟨_, rfl⟩, fun _ _ _ _ _ _ _ _ _ _ _ _ _ _ => ⟨_, rfl⟩, fun _ _ _ _ _ _ _ _ _ _ _ _ _ _ _ => rfl⟩
theorem pp_24_27 : PP [98, 97, 97, 98] [98, 98, 97, 97] := ⟨fun _ => ⟨_, rfl⟩, fun _ => ⟨_, rfl⟩, fun _ _ _ _ _ _ _ _ _ _ _ _ _ _ => ⟨_, rfl⟩, fun _ _ _ _ _ _ _ _ _ _ _ _ _ _ _ => rfl⟩
theorem pp_24_28 : PP [98, 97, 97, 98] [98, 98, 97, 98] := ⟨fun _ => ⟨_, rfl⟩, fun _ => ⟨_, rfl⟩, fun _ _ _ _ _ _ _ _ _ _ _ _ _ _ => ⟨_, rfl⟩, fun _ _ _ _ _ _ _ _ _ _ _ _ _ _ _ => rfl⟩
theorem pp_24_29 : PP [98, 97, 97, 98] [98, 98, 98, 97] := ⟨fun _ => ⟨_, rfl⟩, fun _ => ⟨_, rfl⟩, fun _ _ _ _ _ _ _ _ _ _ _ _ _ _ => ⟨_, rfl⟩, fun _ _ _ _ _ _ _ _ _ _ _ _ _ _ _ => rfl⟩
theorem pp_24_30 : PP [98, 97, 97, 98] [98, 98, 98, 98] := ⟨fun _ => ⟨_, rfl⟩, fun _ => ⟨_, rfl⟩, fun _ _ _ _ _ _ _ _ _ _ _ _ _ _ => ⟨_, rfl⟩, fun _ _ _ _ _ _ _ _ _ _ _ _ _ _ _ => rfl⟩
theorem pp_25_0 : PP [98, 97, 98, 97] [] := ⟨fun _ => ⟨_, rfl⟩, fun _ => ⟨_, rfl⟩, fun _ _ _ _ _ _ _ _ _ _ _ _ _ _ => ⟨_, rfl⟩, fun _ _ _ _ _ _ _ _ _ _ _ _ _ _ _ => rfl⟩
theorem pp_25_1 : PP [98, 97, 98, 97] [97] := ⟨fun _ => ⟨_, rfl⟩, fun _ => ⟨_, rfl⟩, fun _ _ _ _ _ _ _ _ _ _ _ _ _ _ => ⟨_, rfl⟩, fun _ _ _ _ _ _ _ _ _ _ _ _ _ _ _ => rfl⟩
theorem pp_25_2 : PP [98, 97, 98, 97] [98] := ⟨fun _ => ⟨_, rfl⟩, fun _ => ⟨_, rfl⟩, fun _ _ _ _ _ _ _ _ _ _ _ _ _ _ => ⟨_, rfl⟩, fun _ _ _ _ _ _ _ _ _ _ _ _ _ _ _ => rfl⟩
theorem pp_25_3 : PP [98, 97, 98, 97] [97, 97] := ⟨fun _ => ⟨_, rfl⟩, fun _ => ⟨_, rfl⟩, fun _ _ _ _ _ _ _ _ _ _ _ _ _ _ => ⟨_, rfl⟩, fun _ _ _ _ _ _ _ _ _ _ _ _ _ _ _ => rfl⟩
theorem pp_25_4 : PP [98, 97, 98, 97] [97, 98] := ⟨fun _ => ⟨_, rfl⟩, fun _ => ⟨_, rfl⟩, fun _ _ _ _ _ _ _ _ _ _ _ _ _ _ => ⟨_, rfl⟩, fun _ _ _ _ _ _ _ _ _ _ _ _ _ _ _ => rfl⟩
theorem pp_25_5 : PP [98, 97, 98, 97] [98, 97] := ⟨fun _ => ⟨_, rfl⟩, fun _ => ⟨_, rfl⟩, fun _ _ _ _ _ _ _ _ _ _ _ _ _ _ => ⟨_, rfl⟩, fun _ _ _ _ _ _ _ _ _ _ _ _ _ _ _ => rfl⟩
theorem pp_25_6 : PP [98, 97, 98, 97] [98, 98] := ⟨fun _ => ⟨_, rfl⟩, fun _ => ⟨_, rfl⟩, fun _ _ _ _ _ _ _ _ _ _ _ _ _ _ => ⟨_, rfl⟩, fun _ _ _ _ _ _ _ _ _ _ _ _ _ _ _ => rfl⟩
theorem pp_25_7 : PP [98, 97, 98, 97] [97, 97, 97] := ⟨fun _ => ⟨_, rfl⟩, fun _ => ⟨_, rfl⟩, fun _ _ _ _ _ _ _ _ _ _ _ _ _ _ => ⟨_, rfl⟩, fun _ _ _ _ _ _ _ _ _ _ _ _ _ _ _ => rfl⟩
theorem pp_25_8 : PP [98, 97, 98, 97] [97, 97, 98] := ⟨fun _ => ⟨_, rfl⟩, fun _ => ⟨_, rfl⟩, fun _ _ _ _ _ _ _ _ _ _ _ _ _ _ => ⟨_, rfl⟩, fun _ _ _ _ _ _ _ _ _ _ _ _ _ _ _ => rfl⟩
theorem pp_25_9 : PP [98, 97, 98, 97] [97, 98, 97] := ⟨fun _ => ⟨_, rfl⟩, fun _ => ⟨_, rfl⟩, fun _ _ _ _ _ _ _ _ _ _ _ _ _ _ => ⟨_, rfl⟩, fun _ _ _ _ _ _ _ _ _ _ _ _ _ _ _ => rfl⟩
theorem pp_25_10 : PP [98, 97, 98, 97] [97, 98, 98] := ⟨fun _ => ⟨_, rfl⟩, fun _ => ⟨_, rfl⟩, fun _ _ _ _ _ _ _ _ _ _ _ _ _ _ => ⟨_, rfl⟩, fun _ _ _ _ _ _ _ _ _ _ _ _ _ _ _ => rfl⟩
theorem pp_25_11 : PP [98, 97, 98, 97] [98, 97, 97] := ⟨fun _ => ⟨_, rfl⟩, fun _ => ⟨_, rfl⟩, fun _ _ _ _ _ _ _ _ _ _ _ _ _ _ => ⟨_, rfl⟩, fun _ _ _ _ _ _ _ _ _ _ _ _ _ _ _ => rfl⟩
theorem pp_25_12 : PP [98, 97, 98, 97] [98, 97, 98] := ⟨fun _ => ⟨_, rfl⟩, fun _ => ⟨_, rfl⟩, fun _ _ _ _ _ _ _ _ _ _ _ _ _ _ => ⟨_, rfl⟩, fun _ _ _ _ _ _ _ _ _ _ _ _ _ _ _ => rfl⟩
theorem pp_25_13 : PP [98, 97, 98, 97] [98, 98, 97] := ⟨fun _ => ⟨_, rfl⟩, fun _ => ⟨_, rfl⟩, fun _ _ _ _ _ _ _ _ _ _ _ _ _ _ => ⟨_, rfl⟩, fun _ _ _ _ _ _ _ _ _ _ _ _ _ _ _ => rfl⟩
theorem pp_25_14 : PP [98, 97, 98, 97] [98, 98, 98] := ⟨fun _ => ⟨_, rfl⟩, fun _ => ⟨_, rfl⟩, fun _ _ _ _ _ _ _ _ _ _ _ _ _ _ => ⟨_, rfl⟩, fun _ _ _ _ _ _ _ _ _ _ _ _ _ _ _ => rfl⟩
theorem pp_25_15 : PP [98, 97, 98, 97] [97, 97, 97, 97] := ⟨fun _ => ⟨_, rfl⟩, fun _ => ⟨_, rfl⟩, fun _ _ _ _ _ _ _ _ _ _ _ _ _ _ => ⟨_, rfl⟩, fun _ _ _ _ _ _ _ _ _ _ _ _ _ _ _ => rfl⟩
theorem pp_25_16 : PP [98, 97, 98, 97] [97, 97, 97, 98] := ⟨fun _ => ⟨_, rfl⟩, fun _ => ⟨_, rfl⟩, fun _ _ _ _ _ _ _ _ _ _ _ _ _ _ => ⟨_, rfl⟩, fun _ _ _ _ _ _ _ _ _ _ _ _ _ _ _ => rfl⟩
theorem pp_25_17 : PP [98, 97, 98, 97] [97, 97, 98, 97] := ⟨fun _ => ⟨_, rfl⟩, fun _ => ⟨_, rfl⟩, fun _ _ _ _ _ _ _ _ _ _ _ _ _ _ => ⟨_, rfl⟩, fun _ _ _ _ _ _ _ _ _ _ _ _ _ _ _ => rfl⟩
theorem pp_25_18 : PP [98, 97, 98, 97] [97, 97, 98, 98] := ⟨fun _ => ⟨_, rfl⟩, fun _ => ⟨_, rfl⟩, fun _ _ _ _ _ _ _ _ _ _ _ _ _ _ => ⟨_, rfl⟩, fun _ _ _ _ _ _ _ _ _ _ _ _ _ _ _ => rfl⟩
theorem pp_25_19 : PP [98, 97, 98, 97] [97, 98, 97, 97] := ⟨fun _ => ⟨_, rfl⟩, fun _ => ⟨_, rfl⟩, fun _ _ _ _ _ _ _ _ _ _ _ _ _ _ => ⟨_, rfl⟩, fun _ _ _ _ _ _ _ _ _ _ _ _ _ _ _ => rfl⟩
theorem pp_25_20 : PP [98, 97, 98, 97] [97, 98, 97, 98] := ⟨fun _ => ⟨_, rfl⟩, fun _ => ⟨_, rfl⟩, fun _ _ _ _ _ _ _ _ _ _ _ _ _ _ => ⟨_, rfl⟩, fun _ _ _ _ _ _ _ _ _ _ _ _ _ _ _ => rfl⟩
theorem pp_25_21 : PP [98, 97, 98, 97] [97, 98, 98, 97] := ⟨fun _ => ⟨_, rfl⟩, fun _ => ⟨_, rfl⟩, fun _ _ _ _ _ _ _ _ _ _ _ _ _ _ => ⟨_, rfl⟩, fun _ _ _ _ _ _ _ _ _ _ _ _ _ _ _ => rfl⟩
theorem pp_25_22 : PP [98, 97, 98, 97] [97, 98, 98, 98] := ⟨fun _ => ⟨_, rfl⟩, fun _ => ⟨_, rfl⟩, fun _ _ _ _ _ _ _ _ _ _ _ _ _ _ => ⟨_, rfl⟩, fun _ _ _ _ _ _ _ _ _ _ _ _ _ _ _ => rfl⟩
theorem pp_25_23 : PP [98, 97, 98, 97] [98, 97, 97, 97] := ⟨fun _ => ⟨_, rfl⟩, fun _ => ⟨_, rfl⟩, fun _ _ _ _ _ _ _ _ _ _ _ _ _ _ => ⟨_, rfl⟩, fun _ _ _ _ _ _ _ _ _ _ _ _ _ _ _ => rfl⟩
theorem pp_25_24 : PP [98, 97, 98, 97] [98, 97, 97, 98] := ⟨fun _ => ⟨_, rfl⟩, fun _ => ⟨_, rfl⟩, fun _ _ _ _ _ _ _ _ _ _ _ _ _ _ => ⟨_, rfl⟩, fun _ _ _ _ _ _ _ _ _ _ _ _ _ _ _ => rfl⟩
theorem pp_25_25 : PP [98, 97, 98, 97] [98, 97, 98, 97] := ⟨fun _ => ⟨_, rfl⟩, fun _ => ⟨_, rfl⟩, fun _ _ _ _ _ _ _ _ _ _ _ _ _ _ => ⟨_, rfl⟩, fun _ _ _ _ _ _ _ _ _ _ _ _ _ _ _ => rfl⟩
theorem pp_25_26 : PP [98, 97, 98, 97] [98, 97, 98, 98] := ⟨fun _ => ⟨_, rfl⟩, fun _ => ⟨_, rfl⟩, fun _ _ _ _ _ _ _ _ _ _ _ _ _ _ => ⟨_, rfl⟩, fun _ _ _ _ _ _ _ _ _ _ _ _ _ _ _ => rfl⟩
theorem pp_25_27 : PP [98, 97, 98, 97] [98, 98, 97, 97] := ⟨fun _ => ⟨_, rfl⟩, fun _ => ⟨_, rfl⟩, fun _ _ _ _ _ _ _ _ _ _ _ _ _ _ => ⟨_, rfl⟩, fun _ _ _ _ _ _ _ _ _ _ _ _ _ _ _ => rfl⟩
theorem pp_25_28 : PP [98, 97, 98, 97] [98, 98, 97, 98] := ⟨fun _ => ⟨_, rfl⟩, fun _ => ⟨_, rfl⟩, fun _ _ _ _ _ _ _ _ _ _ _ _ _ _ => ⟨_, rfl⟩, fun _ _ _ _ _ _ _ _ _ _ _ _ _ _ _ => rfl⟩
theorem pp_25_29 : PP [98, 97, 98, 97] [98, 98, 98, 97] := ⟨fun _ => ⟨_, rfl⟩, fun _ => ⟨_, rfl⟩, fun _ _ _ _ _ _ _ _ _ _ _ _ _ _ => ⟨_, rfl⟩, fun _ _ _ _ _ _ _ _ _ _ _ _ _ _ _ => rfl⟩
theorem pp_25_30 : PP [98, 97, 98, 97] [98, 98, 98, 98] := ⟨fun _ => ⟨_, rfl⟩, fun _ => ⟨_, rfl⟩, fun _ _ _ _ _ _ _ _ _ _ _ _ _ _ => ⟨_, rfl⟩, fun _ _ _ _ _ _ _ _ _ _ _ _ _ _ _ => rfl⟩
theorem pp_26_0 : PP [98, 97, 98, 98] [] := ⟨fun _ => ⟨_, rfl⟩, fun _ => ⟨_, rfl⟩, fun _ _ _ _ _ _ _ _ _ _ _ _ _ _ => ⟨_, rfl⟩, fun _ _ _ _ _ _ _ _ _ _ _ _ _ _ _ => rfl⟩
theorem pp_26_1 : PP [98, 97, 98, 98] [97] := ⟨fun _ => ⟨_, rfl⟩, fun _ => ⟨_, rfl⟩, fun _ _ _ _ _ _ _ _ _ _ _ _ _ _ => ⟨_, rfl⟩, fun _ _ _ _ _ _ _ _ _ _ _ _ _ _ _ => rfl⟩
theorem pp_26_2 : PP [98, 97, 98, 98] [98] := ⟨fun _ => ⟨_, rfl⟩, fun _ => ⟨_, rfl⟩, fun _ _ _ _ _ _ _ _ _ _ _ _ _ _ => ⟨_, rfl⟩, fun _ _ _ _ _ _ _ _ _ _ _ _ _ _ _ => rfl⟩
theorem pp_26_3 : PP [98, 97, 98, 98] [97, 97] := ⟨fun _ => ⟨_, rfl⟩, fun _ => ⟨_, rfl⟩, fun _ _ _ _ _ _ _ _ _ _ _ _ _ _ => ⟨_, rfl⟩, fun _ _ _ _ _ _ _ _ _ _ _ _ _ _ _ => rfl⟩
theorem pp_26_4 : PP [98, 97, 98, 98] [97, 98] := ⟨fun _ => ⟨_, rfl⟩, fun _ => ⟨_, rfl⟩, fun _ _ _ _ _ _ _ _ _ _ _ _ _ _ => ⟨_, rfl⟩, fun _ _ _ _ _ _ _ _ _ _ _ _ _ _ _ => rfl⟩
theorem pp_26_5 : PP [98, 97, 98, 98] [98, 97] := ⟨fun _ => ⟨_, rfl⟩, fun _ => ⟨_, rfl⟩, fun _ _ _ _ _ _ _ _ _ _ _ _ _ _ => ⟨_, rfl⟩, fun _ _ _ _ _ _ _ _ _ _ _ _ _ _ _ => rfl⟩
theorem pp_26_6 : PP [98, 97, 98, 98] [98, 98] := ⟨fun _ => ⟨_, rfl⟩, fun _ => ⟨_, rfl⟩, fun _ _ _ _ _ _ _ _ _ _ _ _ _ _ => ⟨_, rfl⟩, fun _ _ _ _ _ _ _ _ _ _ _ _ _ _ _ => rfl⟩
theorem pp_26_7 : PP [98, 97, 98, 98] [97, 97, 97] := ⟨fun _ => ⟨_, rfl⟩, fun _ => ⟨_, rfl⟩, fun _ _ _ _ _ _ _ _ _ _ _ _ _ _ => ⟨_, rfl⟩, fun _ _ _ _ _ _ _ _ _ _ _ _ _ _ _ => rfl⟩
theorem pp_26_8 : PP [98, 97, 98, 98] [97, 97, 98] := ⟨fun _ => ⟨_, rfl⟩, fun _ => ⟨_, rfl⟩, fun _ _ _ _ _ _ _ _ _ _ _ _ _ _ => ⟨_, rfl⟩, fun _ _ _ _ _ _ _ _ _ _ _ _ _ _ _ => rfl⟩
theorem pp_26_9 : PP [98, 97, 98, 98] [97, 98, 97] := ⟨fun _ => ⟨_, rfl⟩, fun _ => ⟨_, rfl⟩, fun _ _ _ _ _ _ _ _ _ _ _ _ _ _ => ⟨_, rfl⟩, fun _ _ _ _ _ _ _ _ _ _ _ _ _ _ _ => rfl⟩
theorem pp_26_10 : PP [98, 97, 98, 98] [97, 98, 98] := ⟨fun _ => ⟨_, rfl⟩, fun _ => ⟨_, rfl⟩, fun _ _ _ _ _ _ _ _ _ _ _ _ _ _ => ⟨_, rfl⟩, fun _ _ _ _ _ _ _ _ _ _ _ _ _ _ _ => rfl⟩
theorem pp_26_11 : PP [98, 97, 98, 98] [98, 97, 97] := ⟨fun _ => ⟨_, rfl⟩, fun _ => ⟨_, rfl⟩, fun _ _ _ _ _ _ _ _ _ _ _ _ _ _ => ⟨_, rfl⟩, fun _ _ _ _ _ _ _ _ _ _ _ _ _ _ _ => rfl⟩
theorem pp_26_12 : PP [98, 97, 98, 98] [98, 97, 98] := ⟨fun _ => ⟨_, rfl⟩, fun _ => ⟨_, rfl⟩, fun _ _ _ _ _ _ _ _ _ _ _ _ _ _ => ⟨_, rfl⟩, fun _ _ _ _ _ _ _ _ _ _ _ _ _ _ _ => rfl⟩
theorem pp_26_13 : PP [98, 97, 98, 98] [98, 98, 97] := ⟨fun _ => ⟨_, rfl⟩, fun _ => ⟨_, rfl⟩, fun _ _ _ _ _ _ _ _ _ _ _ _ _ _ => ⟨_, rfl⟩, fun _ _ _ _ _ _ _ _ _ _ _ _ _ _ _ => rfl⟩
theorem pp_26_14 : PP [98, 97, 98, 98] [98, 98, 98] := ⟨fun _ => ⟨_, rfl⟩, fun _ => ⟨_, rfl⟩, fun _ _ _ _ _ _ _ _ _ _ _ _ _ _ => ⟨_, rfl⟩, fun _ _ _ _ _ _ _ _ _ _ _ _ _ _ _ => rfl⟩
theorem pp_26_15 : PP [98, 97, 98, 98] [97, 97, 97, 97] := ⟨fun _ => ⟨_, rfl⟩, fun _ => ⟨_, rfl⟩, fun _ _ _ _ _ _ _ _ _ _ _ _ _ _ => ⟨_, rfl⟩, fun _ _ _ _ _ _ _ _ _ _ _ _ _ _ _ => rfl⟩
theorem pp_26_16 : PP [98, 97, 98, 98] [97, 97, 97, 98] := ⟨fun _ => ⟨_, rfl⟩, fun _ => ⟨_, rfl⟩, fun _ _ _ _ _ _ _ _ _ _ _ _ _ _ => ⟨_, rfl⟩, fun _ _ _ _ _ _ _ _ _ _ _ _ _ _ _ => rfl⟩
theorem pp_26_17 : PP [98, 97, 98, 98] [97, 97, 98, 97] := ⟨fun _ => ⟨_, rfl⟩, fun _ => ⟨_, rfl⟩, fun _ _ _ _ _ _ _ _ _ _ _ _ _ _ => ⟨_, rfl⟩, fun _ _ _ _ _ _ _ _ _ _ _ _ _ _ _ => rfl⟩
theorem pp_26_18 : PP [98, 97, 98, 98] [97, 97, 98, 98] := ⟨fun _ => ⟨_, rfl⟩, fun _ => ⟨_, rfl⟩, fun _ _ _ _ _ _ _ _ _ _ _ _ _ _ => ⟨_, rfl⟩, fun _ _ _ _ _ _ _ _ _ _ _ _ _ _ _ => rfl⟩
theorem pp_26_19 : PP [98, 97, 98, 98] [97, 98, 97, 97] := ⟨fun _ => ⟨_, rfl⟩, fun _ => ⟨_, rfl⟩, fun _ _ _ _ _ _ _ _ _ _ _ _ _ _ => ⟨_, rfl⟩, fun _ _ _ _ _ _ _ _ _ _ _ _ _ _ _ => rfl⟩
theorem pp_26_20 : PP [98, 97, 98, 98] [97, 98, 97, 98] := ⟨fun _ => ⟨_, rfl⟩, fun _ => ⟨_, rfl⟩, fun _ _ _ _ _ _ _ _ _ _ _ _ _ _ => ⟨_, rfl⟩, fun _ _ _ _ _ _ _ _ _ _ _ _ _ _ _ => rfl⟩
theorem pp_26_21 : PP [98, 97, 98, 98] [97, 98, 98, 97] := ⟨fun _ => ⟨_, rfl⟩, fun _ => ⟨_, rfl⟩, fun _ _ _ _ _ _ _ _ _ _ _ _ _ _ => ⟨_, rfl⟩, fun _ _ _ _ _ _ _ _ _ _ _ _ _ _ _ => rfl⟩
theorem pp_26_22 : PP [98, 97, 98, 98] [97, 98, 98, 98] := ⟨fun _ => ⟨_, rfl⟩, fun _ => ⟨_, rfl⟩, fun _ _ _ _ _ _ _ _ _ _ _ _ _ _ => ⟨_, rfl⟩, fun _ _ _ _ _ _ _ _ _ _ _ _ _ _ _ => rfl⟩
theorem pp_26_23 : PP [98, 97, 98, 98] [98, 97, 97, 97] := ⟨fun _ => ⟨_, rfl⟩, fun _ => ⟨_, rfl⟩, fun _ _ _ _ _ _ _ _ _ _ _ _ _ _ => ⟨_, rfl⟩, fun _ _ _ _ _ _ _ _ _ _ _ _ _ _ _ => rfl⟩
theorem pp_26_24 : PP [98, 97, 98, 98] [98, 97, 97, 98] := ⟨fun _ => ⟨_, rfl⟩, fun _ => ⟨_, rfl⟩, fun _ _ _ _ _ _ _ _ _ _ _ _ _ _ => ⟨_, rfl⟩, fun _ _ _ _ _ _ _ _ _ _ _ _ _ _ _ => rfl⟩
theorem pp_26_25 : PP [98, 97, 98, 98] [98, 97, 98, 97] := ⟨fun _ => ⟨_, rfl⟩, fun _ => ⟨_, rfl⟩, fun _ _ _ _ _ _ _ _ _ _ _ _ _ _ => ⟨_, rfl⟩, fun _ _ _ _ _ _ _ _ _ _ _ _ _ _ _ => rfl⟩
theorem pp_26_26 : PP [98, 97, 98, 98] [98, 97, 98, 98] := ⟨fun _ => ⟨_, rfl⟩, fun _ => ⟨_, rfl⟩, fun _ _ _ _ _ _ _ _ _ _ _ _ _ _ => ⟨_, rfl⟩, fun _ _ _ _ _ _ _ _ _ _ _ _ _ _ _ => rfl⟩
theorem pp_26_27 : PP [98, 97, 98, 98] [98, 98, 97, 97] := ⟨fun _ => ⟨_, rfl⟩, fun _ => ⟨_, rfl⟩, fun _ _ _ _ _ _ _ _ _ _ _ _ _ _ => ⟨_, rfl⟩, fun _ _ _ _ _ _ _ _ _ _ _ _ _ _ _ => rfl⟩
theorem pp_26_28 : PP [98, 97, 98, 98] [98, 98, 97, 98] := ⟨fun _ => ⟨_, rfl⟩, fun _ => ⟨_, rfl⟩, fun _ _ _ _ _ _ _ _ _ _ _ _ _ _ => ⟨_, rfl⟩, fun _ _ _ _ _ _ _ _ _ _ _ _ _ _ _ => rfl⟩
theorem pp_26_29 : PP [98, 97, 98, 98] [98, 98, 98, 97] := ⟨fun _ => ⟨_, rfl⟩, fun _ => ⟨_, rfl⟩, fun _ _ _ _ _ _ _ _ _ _ _ _ _ _ => ⟨_, rfl⟩, fun _ _ _ _ _ _ _ _ _ _ _ _ _ _ _ => rfl⟩
theorem pp_26_30 : PP [98, 97, 98, 98] [98, 98, 98, 98] := ⟨fun _ => ⟨_, rfl⟩, fun _ => ⟨_, rfl⟩, fun _ _ _ _ _ _ _ _ _ _ _ _ _ _ => ⟨_, rfl⟩, fun _ _ _ _ _ _ _ _ _ _ _ _ _ _ _ => rfl⟩
theorem pp_27_0 : PP [98, 98, 97, 97] [] := ⟨fun _ => ⟨_, rfl⟩, fun _ => ⟨_, rfl⟩, fun _ _ _ _ _ _ _ _ _ _ _ _ _ _ => ⟨_, rfl⟩, fun _ _ _ _ _ _ _ _ _ _ _ _ _ _ _ => rfl⟩
theorem pp_27_1 : PP [98, 98, 97, 97] [97] := ⟨fun _ => ⟨_, rfl⟩, fun _ => ⟨_, rfl⟩, fun _ _ _ _ _ _ _ _ _ _ _ _ _ _ => ⟨_, rfl⟩, fun _ _ _ _ _ _ _ _ _ _ _ _ _ _ _ => rfl⟩
theorem pp_27_2 : PP [98, 98, 97, 97] [98] := ⟨fun _ => ⟨_, rfl⟩, fun _ => ⟨_, rfl⟩, fun _ _ _ _ _ _ _ _ _ _ _ _ _ _ => ⟨_, rfl⟩, fun _ _ _ _ _ _ _ _ _ _ _ _ _ _ _ => rfl⟩
theorem pp_27_3 : PP [98, 98, 97, 97] [97, 97] := ⟨fun _ => ⟨_, rfl⟩, fun _ => ⟨_, rfl⟩, fun _ _ _ _ _ _ _ _ _ _ _ _ _ _ => ⟨_, rfl⟩, fun _ _ _ _ _ _ _ _ _ _ _ _ _ _ _ => rfl⟩
theorem pp_27_4 : PP [98, 98, 97, 97] [97, 98] := ⟨fun _ => ⟨_, rfl⟩, fun _ => ⟨_, rfl⟩, fun _ _ _ _ _ _ _ _ _ _ _ _ _ _ => ⟨_, rfl⟩, fun _ _ _ _ _ _ _ _ _ _ _ _ _ _ _ => rfl⟩
theorem pp_27_5 : PP [98, 98, 97, 97] [98, 97] := ⟨fun _ => ⟨_, rfl⟩, fun _ => ⟨_, rfl⟩, fun _ _ _ _ _ _ _ _ _ _ _ _ _ _ => ⟨_, rfl⟩, fun _ _ _ _ _ _ _ _ _ _ _ _ _ _ _ => rfl⟩
theorem pp_27_6 : PP [98, 98, 97, 97] [98, 98] := ⟨fun _ => ⟨_, rfl⟩, fun _ => ⟨_, rfl⟩, fun _ _ _ _ _ _ _ _ _ _ _ _ _ _ => ⟨_, rfl⟩, fun _ _ _ _ _ _ _ _ _ _ _ _ _ _ _ => rfl⟩
theorem pp_27_7 : PP [98, 98, 97, 97] [97, 97, 97] := ⟨fun _ => ⟨_, rfl⟩, fun _ => ⟨_, rfl⟩, fun _ _ _ _ _ _ _ _ _ _ _ _ _ _ => ⟨_, rfl⟩, fun _ _ _ _ _ _ _ _ _ _ _ _ _ _ _ => rfl⟩
theorem pp_27_8 : PP [98, 98, 97, 97] [97, 97, 98] := ⟨fun _ => ⟨_, rfl⟩, fun _ => ⟨_, rfl⟩, fun _ _ _ _ _ _ _ _ _ _ _ _ _ _ => ⟨_, rfl⟩, fun _ _ _ _ _ _ _ _ _ _ _ _ _ _ _ => rfl⟩
theorem pp_27_9 : PP [98, 98, 97, 97] [97, 98, 97] := ⟨fun _ => ⟨_, rfl⟩, fun _ => ⟨_, rfl⟩, fun _ _ _ _ _ _ _ _ _ _ _ _ _ _ => ⟨_, rfl⟩, fun _ _ _ _ _ _ _ _ _ _ _ _ _ _ _ => rfl⟩
theorem pp_27_10 : PP [98, 98, 97, 97] [97, 98, 98] := ⟨fun _ => ⟨_, rfl⟩, fun _ => ⟨_, rfl⟩, fun _ _ _ _ _ _ _ _ _ _ _ _ _ _ => ⟨_, rfl⟩, fun _ _ _ _ _ _ _ _ _ _ _ _ _ _ _ => rfl⟩
theorem pp_27_11 : PP [98, 98, 97, 97] [98, 97, 97] := ⟨fun _ => ⟨_, rfl⟩, fun _ => ⟨_, rfl⟩, fun _ _ _ _ _ _ _ _ _ _ _ _ _ _ => ⟨_, rfl⟩, fun _ _ _ _ _ _ _ _ _ _ _ _ _ _ _ => rfl⟩
theorem pp_27_12 : PP [98, 98, 97, 97] [98, 97, 98] := ⟨fun _ => ⟨_, rfl⟩, fun _ => ⟨_, rfl⟩, fun _ _ _ _ _ _ _ _ _ _ _ _ _ _ => ⟨_, rfl⟩, fun _ _ _ _ _ _ _ _ _ _ _ _ _ _ _ => rfl⟩
theorem pp_27_13 : PP [98, 98, 97, 97] [98, 98, 97] := ⟨fun _ => ⟨_, rfl⟩, fun _ => ⟨_, rfl⟩, fun _ _ _ _ _ _ _ _ _ _ _ _ _ _ => ⟨_, rfl⟩, fun _ _ _ _ _ _ _ _ _ _ _ _ _ _ _ => rfl⟩
theorem pp_27_14 : PP [98, 98, 97, 97] [98, 98, 98] := ⟨fun _ => ⟨_, rfl⟩, fun _ => ⟨_, rfl⟩, fun _ _ _ _ _ _ _ _ _ _ _ _ _ _ => ⟨_, rfl⟩, fun _ _ _ _ _ _ _ _ _ _ _ _ _ _ _ => rfl⟩
theorem pp_27_15 : PP [98, 98, 97, 97] [97, 97, 97, 97] := ⟨fun _ => ⟨_, rfl⟩, fun _ => ⟨_, rfl⟩, fun _ _ _ _ _ _ _ _ _ _ _ _ _ _ => ⟨_, rfl⟩, fun _ _ _ _ _ _ _ _ _ _ _ _ _ _ _ => rfl⟩
theorem pp_27_16 : PP [98, 98, 97, 97] [97, 97, 97, 98] := ⟨fun _ => ⟨_, rfl⟩, fun _ => ⟨_, rfl⟩, fun _ _ _ _ _ _ _ _ _ _ _ _ _ _ => ⟨_, rfl⟩, fun _ _ _ _ _ _ _ _ _ _ _ _ _ _ _ => rfl⟩
theorem pp_27_17 : PP [98, 98, 97, 97] [97, 97, 98, 97] := ⟨fun _ => ⟨_, rfl⟩, fun _ => ⟨_, rfl⟩, fun _ _ _ _ _ _ _ _ _ _ _ _ _ _ => ⟨_, rfl⟩, fun _ _ _ _ _ _ _ _ _ _ _ _ _ _ _ => rfl⟩
theorem pp_27_18 : PP [98, 98, 97, 97] [97, 97, 98, 98] := ⟨fun _ => ⟨_, rfl⟩, fun _ => ⟨_, rfl⟩, fun _ _ _ _ _ _ _ _ _ _ _ _ _ _ => ⟨_, rfl⟩, fun _ _ _ _ _ _ _ _ _ _ _ _ _ _ _ => rfl⟩
theorem pp_27_19 : PP [98, 98, 97, 97] [97, 98, 97, 97] := ⟨fun _ => ⟨_, rfl⟩, fun _ => ⟨_, rfl⟩, fun _ _ _ _ _ _ _ _ _ _ _ _ _ _ => ⟨_, rfl⟩, fun _ _ _ _ _ _ _ _ _ _ _ _ _ _ _ => rfl⟩
theorem pp_27_20 : PP [98, 98, 97, 97] [97, 98, 97, 98] := ⟨fun _ => ⟨_, rfl⟩, fun _ => ⟨_, rfl⟩, fun _ _ _ _ _ _ _ _ _ _ _ _ _ _ => ⟨_, rfl⟩, fun _ _ _ _ _ _ _ _ _ _ _ _ _ _ _ => rfl⟩
theorem pp_27_21 : PP [98, 98, 97, 97] [97, 98, 98, 97] := ⟨fun _ => ⟨_, rfl⟩, fun _ => ⟨_, rfl⟩, fun _ _ _ _ _ _ _ _ _ _ _ _ _ _ => ⟨_, rfl⟩, fun _ _ _ _ _ _ _ _ _ _ _ _ _ _ _ => rfl⟩
theorem pp_27_22 : PP [98, 98, 97, 97] [97, 98, 98, 98] := ⟨fun _ => ⟨_, rfl⟩, fun _ => ⟨_, rfl⟩, fun _ _ _ _ _ _ _ _ _ _ _ _ _ _ => ⟨_, rfl⟩, fun _ _ _ _ _ _ _ _ _ _ _ _ _ _ _ => rfl⟩
theorem pp_27_23 : PP [98, 98, 97, 97] [98, 97, 97, 97] := ⟨fun _ => ⟨_, rfl⟩, fun _ => ⟨_, rfl⟩, fun _ _ _ _ _ _ _ _ _ _ _ _ _ _ => ⟨_, rfl⟩, fun _ _ _ _ _ _ _ _ _ _ _ _ _ _ _ => rfl⟩
theorem pp_27_24 : PP [98, 98, 97, 97] [98, 97, 97, 98] := ⟨fun _ => ⟨_, rfl⟩, fun _ => ⟨_, rfl⟩, fun _ _ _ _ _ _ _ _ _ _ _ _ _ _ => ⟨_, rfl⟩, fun _ _ _ _ _ _ _ _ _ _ _ _ _ _ _ => rfl⟩
theorem pp_27_25 : PP [98, 98, 97, 97] [98, 97, 98, 97] := ⟨fun _ => ⟨_, rfl⟩, fun _ => ⟨_, rfl⟩, fun _ _ _ _ _ _ _ _ _ _ _ _ _ _ => ⟨_, rfl⟩, fun _ _ _ _ _ _ _ _ _ _ _ _ _ _ _ => rfl⟩
theorem pp_27_26 : PP [98, 98, 97, 97] [98, 97, 98, 98] := ⟨fun _ => ⟨_, rfl⟩, fun _ => ⟨_, rfl⟩, fun _ _ _ _ _ _ _ _ _ _ _ _ _ _ => ⟨_, rfl⟩, fun _ _ _ _ _ _ _ _ _ _ _ _ _ _ _ => rfl⟩
theorem pp_27_27 : PP [98, 98, 97, 97] [98, 98, 97, 97] := ⟨fun _ => ⟨_, rfl⟩, fun _ => ⟨_, rfl⟩, fun _ _ _ _ _ _ _ _ _ _ _ _ _ _ => ⟨_, rfl⟩, fun _ _ _ _ _ _ _ _ _ _ _ _ _ _ _ => rfl⟩
theorem pp_27_28 : PP [98, 98, 97, 97] [98, 98, 97, 98] := ⟨fun _ => ⟨_, rfl⟩, fun _ => ⟨_, rfl⟩, fun _ _ _ _ _ _ _ _ _ _ _ _ _ _ => ⟨_, rfl⟩, fun _ _ _ _ _ _ _ _ _ _ _ _ _ _ _ => rfl⟩
theorem pp_27_29 : PP [98, 98, 97, 97] [98, 98, 98, 97] := ⟨fun _ => ⟨_, rfl⟩, fun _ => ⟨_, rfl⟩, fun _ _ _ _ _ _ _ _ _ _ _ _ _ _ => ⟨_, rfl⟩, fun _ _ _ _ _ _ _ _ _ _ _ _ _ _ _ => rfl⟩
theorem pp_27_30 : PP [98, 98, 97, 97] [98, 98, 98, 98] := ⟨fun _ => ⟨_, rfl⟩, fun _ => ⟨_, rfl⟩, fun _ _ _ _ _ _ _ _ _ _ _ _ _ _ => ⟨_, rfl⟩, fun _ _ _ _ _ _ _ _ _ _ _ _ _ _ _ => rfl⟩
theorem pp_28_0 : PP [98, 98, 97, 98] [] := ⟨fun _ => ⟨_, rfl⟩, fun _ => ⟨_, rfl⟩, fun _ _ _ _ _ _ _ _ _ _ _ _ _ _ => ⟨_, rfl⟩, fun _ _ _ _ _ _ _ _ _ _ _ _ _ _ _ => rfl⟩
theorem pp_28_1 : PP [98, 98, 97, 98] [97] := ⟨fun _ => ⟨_, rfl⟩, fun _ => ⟨_, rfl⟩, fun _ _ _ _ _ _ _ _ _ _ _ _ _ _ => ⟨_, rfl⟩, fun _ _ _ _ _ _ _ _ _ _ _ _ _ _ _ => rfl⟩
theorem pp_28_2 : PP [98, 98, 97, 98] [98] := ⟨fun _ => ⟨_, rfl⟩, fun _ => ⟨_, rfl⟩, fun _ _ _ _ _ _ _ _ _ _ _ _ _ _ => ⟨_, rfl⟩, fun _ _ _ _ _ _ _ _ _ _ _ _ _ _ _ => rfl⟩
theorem pp_28_3 : PP [98, 98, 97, 98] [97, 97] := ⟨fun _ => ⟨_, rfl⟩, fun _ => ⟨_, rfl⟩, fun _ _ _ _ _ _ _ _ _ _ _ _ _ _ => ⟨_, rfl⟩, fun _ _ _ _ _ _ _ _ _ _ _ _ _ _ _ => rfl⟩
theorem pp_28_4 : PP [98, 98, 97, 98] [97, 98] := ⟨fun _ => ⟨_, rfl⟩, fun _ => ⟨_, rfl⟩, fun _ _ _ _ _ _ _ _ _ _ _ _ _ _ => ⟨_, rfl⟩, fun _ _ _ _ _ _ _ _ _ _ _ _ _ _ _ => rfl⟩
theorem pp_28_5 : PP [98, 98, 97, 98] [98, 97] := ⟨fun _ => ⟨_, rfl⟩, fun _ => ⟨_, rfl⟩, fun _ _ _ _ _ _ _ _ _ _ _ _ _ _ => ⟨_, rfl⟩, fun _ _ _ _ _ _ _ _ _ _ _ _ _ _ _ => rfl⟩
theorem pp_28_6 : PP [98, 98, 97, 98] [98, 98] := ⟨fun _ => ⟨_, rfl⟩, fun _ => ⟨_, rfl⟩, fun _ _ _ _ _ _ _ _ _ _ _ _ _ _ => ⟨_, rfl⟩, fun _ _ _ _ _ _ _ _ _ _ _ _ _ _ _ => rfl⟩
theorem pp_28_7 : PP [98, 98, 97, 98] [97, 97, 97] := ⟨fun _ => ⟨_, rfl⟩, fun _ => ⟨_, rfl⟩, fun _ _ _ _ _ _ _ _ _ _ _ _ _ _ => ⟨_, rfl⟩, fun _ _ _ _ _ _ _ _ _ _ _ _ _ _ _ => rfl⟩
theorem pp_28_8 : PP [98, 98, 97, 98] [97, 97, 98] := ⟨fun _ => ⟨_, rfl⟩, fun _ => ⟨_, rfl⟩, fun _ _ _ _ _ _ _ _ _ _ _ _ _ _ => ⟨_, rfl⟩, fun _ _ _ _ _ _ _ _ _ _ _ _ _ _ _ => rfl⟩
theorem pp_28_9 : PP [98, 98, 97, 98] [97, 98, 97] := ⟨fun _ => ⟨_, rfl⟩, fun _ => ⟨_, rfl⟩, fun _ _ _ _ _ _ _ _ _ _ _ _ _ _ => ⟨_, rfl⟩, fun _ _ _ _ _ _ _ _ _ _ _ _ _ _ _ => rfl⟩
theorem pp_28_10 : PP [98, 98, 97, 98] [97, 98, 98] := ⟨fun _ => ⟨_, rfl⟩, fun _ => ⟨_, rfl⟩, fun _ _ _ _ _ _ _ _ _ _ _ _ _ _ => ⟨_, rfl⟩, fun _ _ _ _ _ _ _ _ _ _ _ _ _ _ _ => rfl⟩
theorem pp_28_11 : PP [98, 98, 97, 98] [98, 97, 97] := ⟨fun _ => ⟨_, rfl⟩, fun _ => ⟨_, rfl⟩, fun _ _ _ _ _ _ _ _ _ _ _ _ _ _ => ⟨_, rfl⟩, fun _ _ _ _ _ _ _ _ _ _ _ _ _ _ _ => rfl⟩
theorem pp_28_12 : PP [98, 98, 97, 98] [98, 97, 98] := ⟨fun _ => ⟨_, rfl⟩, fun _ => ⟨_, rfl⟩, fun _ _ _ _ _ _ _ _ _ _ _ _ _ _ => ⟨_, rfl⟩, fun _ _ _ _ _ _ _ _ _ _ _ _ _ _ _ => rfl⟩
theorem pp_28_13 : PP [98, 98, 97, 98] [98, 98, 97] := ⟨fun _ => ⟨_, rfl⟩, fun _ => ⟨_, rfl⟩, fun _ _ _ _ _ _ _ _ _ _ _ _ _ _ => ⟨_, rfl⟩, fun _ _ _ _ _ _ _ _ _ _ _ _ _ _ _ => rfl⟩
theorem pp_28_14 : PP [98, 98, 97, 98] [98, 98, 98] := ⟨fun _ => ⟨_, rfl⟩, fun _ => ⟨_, rfl⟩, fun _ _ _ _ _ _ _ _ _ _ _ _ _ _ => ⟨_, rfl⟩, fun _ _ _ _ _ _ _ _ _ _ _ _ _ _ _ => rfl⟩
theorem pp_28_15 : PP [98, 98, 97, 98] [97, 97, 97, 97] := ⟨fun _ => ⟨_, rfl⟩, fun _ => ⟨_, rfl⟩, fun _ _ _ _ _ _ _ _ _ _ _ _ _ _ => ⟨_, rfl⟩, fun _ _ _ _ _ _ _ _ _ _ _ _ _ _ _ => rfl⟩
theorem pp_28_16 : PP [98, 98, 97, 98] [97, 97, 97, 98] := ⟨fun _ => ⟨_, rfl⟩, fun _ => ⟨_, rfl⟩, fun _ _ _ _ _ _ _ _ _ _ _ _ _ _ => ⟨_, rfl⟩, fun _ _ _ _ _ _ _ _ _ _ _ _ _ _ _ => rfl⟩
theorem pp_28_17 : PP [98, 98, 97, 98] [97, 97, 98, 97] := ⟨fun _ => ⟨_, rfl⟩, fun _ => ⟨_, rfl⟩, fun _ _ _ _ _ _ _ _ _ _ _ _ _ _ => ⟨_, rfl⟩, fun _ _ _ _ _ _ _ _ _ _ _ _ _ _ _ => rfl⟩
theorem pp_28_18 : PP [98, 98, 97, 98] [97, 97, 98, 98] := ⟨fun _ => ⟨_, rfl⟩, fun _ => ⟨_, rfl⟩, fun _ _ _ _ _ _ _ _ _ _ _ _ _ _ => ⟨_, rfl⟩, fun _ _ _ _ _ _ _ _ _ _ _ _ _ _ _ => rfl⟩
theorem pp_28_19 : PP [98, 98, 97, 98] [97, 98, 97, 97] := ⟨fun _ => ⟨_, rfl⟩, fun _ => ⟨_, rfl⟩, fun _ _ _ _ _ _ _ _ _ _ _ _ _ _ => ⟨_, rfl⟩, fun _ _ _ _ _ _ _ _ _ _ _ _ _ _ _ => rfl⟩
theorem pp_28_20 : PP [98, 98, 97, 98] [97, 98, 97, 98] := ⟨fun _ => ⟨_, rfl⟩, fun _ => ⟨_, rfl⟩, fun _ _ _ _ _ _ _ _ _ _ _ _ _ _ => ⟨_, rfl⟩, fun _ _ _ _ _ _ _ _ _ _ _ _ _ _ _ => rfl⟩
theorem pp_28_21 : PP [98, 98, 97, 98] [97, 98, 98, 97] := ⟨fun _ => ⟨_, rfl⟩, fun _ => ⟨_, rfl⟩, fun _ _ _ _ _ _ _ _ _ _ _ _ _ _ => ⟨_, rfl⟩, fun _ _ _ _ _ _ _ _ _ _ _ _ _ _ _ => rfl⟩
theorem pp_28_22 : PP [98, 98, 97, 98] [97, 98, 98, 98] := ⟨fun _ => ⟨_, rfl⟩, fun _ => ⟨_, rfl⟩, fun _ _ _ _ _ _ _ _ _ _ _ _ _ _ => ⟨_, rfl⟩, fun _ _ _ _ _ _ _ _ _ _ _ _ _ _ _ => rfl⟩
theorem pp_28_23 : PP [98, 98, 97, 98] [98, 97, 97, 97] := ⟨fun _ => ⟨_, rfl⟩, fun _ => ⟨_, rfl⟩, fun _ _ _ _ _ _ _ _ _ _ _ _ _ _ => ⟨_, rfl⟩, fun _ _ _ _ _ _ _ _ _ _ _ _ _ _ _ => rfl⟩
theorem pp_28_24 : PP [98, 98, 97, 98] [98, 97, 97, 98] := ⟨fun _ => ⟨_, rfl⟩, fun _ => ⟨_, rfl⟩, fun _ _ _ _ _ _ _ _ _ _ _ _ _ _ => ⟨_, rfl⟩, fun _ _ _ _ _ _ _ _ _ _ _ _ _ _ _ => rfl⟩
theorem pp_28_25 : PP [98, 98, 97, 98] [98, 97, 98, 97] := ⟨fun _ => ⟨_, rfl⟩, fun _ => ⟨_, rfl⟩, fun _ _ _ _ _ _ _ _ _ _ _ _ _ _ => ⟨_, rfl⟩, fun _ _ _ _ _ _ _ _ _ _ _ _ _ _ _ => rfl⟩
theorem pp_28_26 : PP [98, 98, 97, 98] [98, 97, 98, 98] := ⟨fun _ => ⟨_, rfl⟩, fun _ => ⟨_, rfl⟩, fun _ _ _ _ _ _ _ _ _ _ _ _ _ _ => ⟨_, rfl⟩, fun _ _ _ _ _ _ _ _ _ _ _ _ _ _ _ => rfl⟩
theorem pp_28_27 : PP [98, 98, 97, 98] [98, 98, 97, 97] := ⟨fun _ => ⟨_, rfl⟩, fun _ => ⟨_, rfl⟩, fun _ _ _ _ _ _ _ _ _ _ _ _ _ _ => ⟨_, rfl⟩, fun _ _ _ _ _ _ _ _ _ _ _ _ _ _ _ => rfl⟩
theorem pp_28_28 : PP [98, 98, 97, 98] [98, 98, 97, 98] := ⟨fun _ => ⟨_, rfl⟩, fun _ => ⟨_, rfl⟩, fun _ _ _ _ _ _ _ _ _ _ _ _ _ _ => ⟨_, rfl⟩, fun _ _ _ _ _ _ _ _ _ _ _ _ _ _ _ => rfl⟩
theorem pp_28_29 : PP [98, 98, 97, 98] [98, 98, 98, 97] := ⟨fun _ => ⟨_, rfl⟩, fun _ => ⟨_, rfl⟩, fun _ _ _ _ _ _ _ _ _ _ _ _ _ _ => ⟨_, rfl⟩, fun _ _ _ _ _ _ _ _ _ _ _ _ _ _ _ => rfl⟩
theorem pp_28_30 : PP [98, 98, 97, 98] [98, 98, 98, 98] := ⟨fun _ => ⟨_, rfl⟩, fun _ => ⟨_, rfl⟩, fun _ _ _ _ _ _ _ _ _ _ _ _ _ _ => ⟨_, rfl⟩, fun _ _ _ _ _ _ _ _ _ _ _ _ _ _ _ => rfl⟩
theorem pp_29_0 : PP [98, 98, 98, 97] [] := ⟨fun _ => ⟨_, rfl⟩, fun _ => ⟨_, rfl⟩, fun _ _ _ _ _ _ _ _ _ _ _ _ _ _ => ⟨_, rfl⟩, fun _ _ _ _ _ _ _ _ _ _ _ _ _ _ _ => rfl⟩
theorem pp_29_1 : PP [98, 98, 98, 97] [97] := ⟨fun _ => ⟨_, rfl⟩, fun _ => ⟨_, rfl⟩, fun _ _ _ _ _ _ _ _ _ _ _ _ _ _ => ⟨_, rfl⟩, fun _ _ _ _ _ _ _ _ _ _ _ _ _ _ _ => rfl⟩
theorem pp_29_2 : PP [98, 98, 98, 97] [98] := ⟨fun _ => ⟨_, rfl⟩, fun _ => ⟨_, rfl⟩, fun _ _ _ _ _ _ _ _ _ _ _ _ _ _ => ⟨_, rfl⟩, fun _ _ _ _ _ _ _ _ _ _ _ _ _ _ _ => rfl⟩
theorem pp_29_3 : PP [98, 98, 98, 97] [97, 97] := ⟨fun _ => ⟨_, rfl⟩, fun _ => ⟨_, rfl⟩, fun _ _ _ _ _ _ _ _ _ _ _ _ _ _ => ⟨_, rfl⟩, fun _ _ _ _ _ _ _ _ _ _ _ _ _ _ _ => rfl⟩
theorem pp_29_4 : PP [98, 98, 98, 97] [97, 98] := ⟨fun _ => ⟨_, rfl⟩, fun _ => ⟨_, rfl⟩, fun _ _ _ _ _ _ _ _ _ _ _ _ _ _ => ⟨_, rfl⟩, fun _ _ _ _ _ _ _ _ _ _ _ _ _ _ _ => rfl⟩
theorem pp_29_5 : PP [98, 98, 98, 97] [98, 97] := ⟨fun _ => ⟨_, rfl⟩, fun _ => ⟨_, rfl⟩, fun _ _ _ _ _ _ _ _ _ _ _ _ _ _ => ⟨_, rfl⟩, fun _ _ _ _ _ _ _ _ _ _ _ _ _ _ _ => rfl⟩
theorem pp_29_6 : PP [98, 98, 98, 97] [98, 98] := ⟨fun _ => ⟨_, rfl⟩, fun _ => ⟨_, rfl⟩, fun _ _ _ _ _ _ _ _ _ _ _ _ _ _ => ⟨_, rfl⟩, fun _ _ _ _ _ _ _ _ _ _ _ _ _ _ _ => rfl⟩
theorem pp_29_7 : PP [98, 98, 98, 97] [97, 97, 97] := ⟨fun _ => ⟨_, rfl⟩, fun _ => ⟨_, rfl⟩, fun _ _ _ _ _ _ _ _ _ _ _ _ _ _ => ⟨_, rfl⟩, fun _ _ _ _ _ _ _ _ _ _ _ _ _ _ _ => rfl⟩
theorem pp_29_8 : PP [98, 98, 98, 97] [97, 97, 98] := ⟨fun _ => ⟨_, rfl⟩, fun _ => ⟨_, rfl⟩, fun _ _ _ _ _ _ _ _ _ _ _ _ _ _ => ⟨_, rfl⟩, fun _ _ _ _ _ _ _ _ _ _ _ _ _ _ _ => rfl⟩
theorem pp_29_9 : PP [98, 98, 98, 97] [97, 98, 97] := ⟨fun _ => ⟨_, rfl⟩, fun _ => ⟨_, rfl⟩, fun _ _ _ _ _ _ _ _ _ _ _ _ _ _ => ⟨_, rfl⟩, fun _ _ _ _ _ _ _ _ _ _ _ _ _ _ _ => rfl⟩
theorem pp_29_10 : PP [98, 98, 98, 97] [97, 98, 98] := ⟨fun _ => ⟨_, rfl⟩, fun _ => ⟨_, rfl⟩, fun _ _ _ _ _ _ _ _ _ _ _ _ _ _ => ⟨_, rfl⟩, fun _ _ _ _ _ _ _ _ _ _ _ _ _ _ _ => rfl⟩
theorem pp_29_11 : PP [98, 98, 98, 97] [98, 97, 97] := ⟨fun _ => ⟨_, rfl⟩, fun _ => ⟨_, rfl⟩, fun _ _ _ _ _ _ _ _ _ _ _ _ _ _ => ⟨_, rfl⟩, fun _ _ _ _ _ _ _ _ _ _ _ _ _ _ _ => rfl⟩
theorem pp_29_12 : PP [98, 98, 98, 97] [98, 97, 98] := ⟨fun _ => ⟨_, rfl⟩, fun _ => ⟨_, rfl⟩, fun _ _ _ _ _ _ _ _ _ _ _ _ _ _ => ⟨_, rfl⟩, fun _ _ _ _ _ _ _ _ _ _ _ _ _ _ _ => rfl⟩
theorem pp_29_13 : PP [98, 98, 98, 97] [98, 98, 97] := ⟨fun _ => ⟨_, rfl⟩, fun _ => ⟨_, rfl⟩, fun _ _ _ _ _ _ _ _ _ _ _ _ _ _ => ⟨_, rfl⟩, fun _ _ _ _ _ _ _ _ _ _ _ _ _ _ _ => rfl⟩
theorem pp_29_14 : PP [98, 98, 98, 97] [98, 98, 98] := ⟨fun _ => ⟨_, rfl⟩, fun _ => ⟨_, rfl⟩, fun _ _ _ _ _ _ _ _ _ _ _ _ _ _ => ⟨_, rfl⟩, fun _ _ _ _ _ _ _ _ _ _ _ _ _ _ _ => rfl⟩
theorem pp_29_15 : PP [98, 98, 98, 97] [97, 97, 97, 97] := ⟨fun _ => ⟨_, rfl⟩, fun _ => ⟨_, rfl⟩, fun _ _ _ _ _ _ _ _ _ _ _ _ _ _ => ⟨_, rfl⟩, fun _ _ _ _ _ _ _ _ _ _ _ _ _ _ _ => rfl⟩
theorem pp_29_16 : PP [98, 98, 98, 97] [97, 97, 97, 98] := ⟨fun _ => ⟨_, rfl⟩, fun _ => ⟨_, rfl⟩, fun _ _ _ _ _ _ _ _ _ _ _ _ _ _ => ⟨_, rfl⟩, fun _ _ _ _ _ _ _ _ _ _ _ _ _ _ _ => rfl⟩
theorem pp_29_17 : PP [98, 98, 98, 97] [97, 97, 98, 97] := ⟨fun _ => ⟨_, rfl⟩, fun _ => ⟨_, rfl⟩, fun _ _ _ _ _ _ _ _ _ _ _ _ _ _ => ⟨_, rfl⟩, fun _ _ _ _ _ _ _ _ _ _ _ _ _ _ _ => rfl⟩
theorem pp_29_18 : PP [98, 98, 98, 97] [97, 97, 98, 98] := ⟨fun _ => ⟨_, rfl⟩, fun _ => ⟨_, rfl⟩, fun _ _ _ _ _ _ _ _ _ _ _ _ _ _ => ⟨_, rfl⟩, fun _ _ _ _ _ _ _ _ _ _ _ _ _ _ _ => rfl⟩
theorem pp_29_19 : PP [98, 98, 98, 97] [97, 98, 97, 97] := ⟨fun _ => ⟨_, rfl⟩, fun _ => ⟨_, rfl⟩, fun _ _ _ _ _ _ _ _ _ _ _ _ _ _ => ⟨_, rfl⟩, fun _ _ _ _ _ _ _ _ _ _ _ _ _ _ _ => rfl⟩
theorem pp_29_20 : PP [98, 98, 98, 97] [97, 98, 97, 98] := ⟨fun _ => ⟨_, rfl⟩, fun _ => ⟨_, rfl⟩, fun _ _ _ _ _ _ _ _ _ _ _ _ _ _ => ⟨_, rfl⟩, fun _ _ _ _ _ _ _ _ _ _ _ _ _ _ _ => rfl⟩
theorem pp_29_21 : PP [98, 98, 98, 97] [97, 98, 98, 97] := ⟨fun _ => ⟨_, rfl⟩, fun _ => ⟨_, rfl⟩, fun _ _ _ _ _ _ _ _ _ _ _ _ _ _ => ⟨_, rfl⟩, fun _ _ _ _ _ _ _ _ _ _ _ _ _ _ _ => rfl⟩
theorem pp_29_22 : PP [98, 98, 98, 97] [97, 98, 98, 98] := ⟨fun _ => ⟨_, rfl⟩, fun _ => ⟨_, rfl⟩, fun _ _ _ _ _ _ _ _ _ _ _ _ _ _ => ⟨_, rfl⟩, fun _ _ _ _ _ _ _ _ _ _ _ _ _ _ _ => rfl⟩
theorem pp_29_23 : PP [98, 98, 98, 97] [98, 97, 97, 97] := ⟨fun _ => ⟨_, rfl⟩, fun _ => ⟨_, rfl⟩, fun _ _ _ _ _ _ _ _ _ _ _ _ _ _ => ⟨_, rfl⟩, fun _ _ _ _ _ _ _ _ _ _ _ _ _ _ _ => rfl⟩
theorem pp_29_24 : PP [98, 98, 98, 97] [98, 97, 97, 98] := ⟨fun _ => ⟨_, rfl⟩, fun _ => ⟨_, rfl⟩, fun _ _ _ _ _ _ _ _ _ _ _ _ _ _ => ⟨_, rfl⟩, fun _ _ _ _ _ _ _ _ _ _ _ _ _ _ _ => rfl⟩
theorem pp_29_25 : PP [98, 98, 98, 97] [98, 97, 98, 97] := ⟨fun _ => ⟨_, rfl⟩, fun _ => ⟨_, rfl⟩, fun _ _ _ _ _ _ _ _ _ _ _ _ _ _ => ⟨_, rfl⟩, fun _ _ _ _ _ _ _ _ _ _ _ _ _ _ _ => rfl⟩
theorem pp_29_26 : PP [98, 98, 98, 97] [98, 97, 98, 98] := ⟨fun _ => ⟨_, rfl⟩, fun _ => ⟨_, rfl⟩, fun _ _ _ _ _ _ _ _ _ _ _ _ _ _ => ⟨_, rfl⟩, fun _ _ _ _ _ _ _ _ _ _ _ _ _ _ _ => rfl⟩
theorem pp_29_27 : PP [98, 98, 98, 97] [98, 98, 97, 97] := ⟨fun _ => ⟨_, rfl⟩, fun _ => ⟨_, rfl⟩, fun _ _ _ _ _ _ _ _ _ _ _ _ _ _ => ⟨_, rfl⟩, fun _ _ _ _ _ _ _ _ _ _ _ _ _ _ _ => rfl⟩
theorem pp_29_28 : PP [98, 98, 98, 97] [98, 98, 97, 98] := ⟨fun _ => ⟨_, rfl⟩, fun _ => ⟨_, rfl⟩, fun _ _ _ _ _ _ _ _ _ _ _ _ _ _ => ⟨_, rfl⟩, fun _ _ _ _ _ _ _ _ _ _ _ _ _ _ _ => rfl⟩
theorem pp_29_29 : PP [98, 98, 98, 97] [98, 98, 98, 97] := ⟨fun _ => ⟨_, rfl⟩, fun _ => ⟨_, rfl⟩, fun _ _ _ _ _ _ _ _ _ _ _ _ _ _ => ⟨_, rfl⟩, fun _ _ _ _ _ _ _ _ _ _ _ _ _ _ _ => rfl⟩
theorem pp_29_30 : PP [98, 98, 98, 97] [98, 98, 98, 98] := ⟨fun _ => ⟨_, rfl⟩, fun _ => ⟨_, rfl⟩, fun _ _ _ _ _ _ _ _ _ _ _ _ _ _ => ⟨_, rfl⟩, fun _ _ _ _ _ _ _ _ _ _ _ _ _ _ _ => rfl⟩
theorem pp_30_0 : PP [98, 98, 98, 98] [] := ⟨fun _ => ⟨_, rfl⟩, fun _ => ⟨_, rfl⟩, fun _ _ _ _ _ _ _ _ _ _ _ _ _ _ => ⟨_, rfl⟩, fun _ _ _ _ _ _ _ _ _ _ _ _ _ _ _ => rfl⟩
theorem pp_30_1 : PP [98, 98, 98, 98] [97] := ⟨fun _ => ⟨_, rfl⟩, fun _ => ⟨_, rfl⟩, fun _ _ _ _ _ _ _ _ _ _ _ _ _ _ => ⟨_, rfl⟩, fun _ _ _ _ _ _ _ _ _ _ _ _ _ _ _ => rfl⟩
theorem pp_30_2 : PP [98, 98, 98, 98] [98] := ⟨fun _ => ⟨_, rfl⟩, fun _ => ⟨_, rfl⟩, fun _ _ _ _ _ _ _ _ _ _ _ _ _ _ => ⟨_, rfl⟩, fun _ _ _ _ _ _ _ _ _ _ _ _ _ _ _ => rfl⟩
theorem pp_30_3 : PP [98, 98, 98, 98] [97, 97] := ⟨fun _ => ⟨_, rfl⟩, fun _ => ⟨_, rfl⟩, fun _ _ _ _ _ _ _ _ _ _ _ _ _ _ => ⟨_, rfl⟩, fun _ _ _ _ _ _ _ _ _ _ _ _ _ _ _ => rfl⟩
theorem pp_30_4 : PP [98, 98, 98, 98] [97, 98] := ⟨fun _ => ⟨_, rfl⟩, fun _ => ⟨_, rfl⟩, fun _ _ _ _ _ _ _ _ _ _ _ _ _ _ => ⟨_, rfl⟩, fun _ _ _ _ _ _ _ _ _ _ _ _ _ _ _ => rfl⟩
theorem pp_30_5 : PP [98, 98, 98, 98] [98, 97] := ⟨fun _ => ⟨_, rfl⟩, fun _ => ⟨_, rfl⟩, fun _ _ _ _ _ _ _ _ _ _ _ _ _ _ => ⟨_, rfl⟩, fun _ _ _ _ _ _ _ _ _ _ _ _ _ _ _ => rfl⟩
theorem pp_30_6 : PP [98, 98, 98, 98] [98, 98] := ⟨fun _ => ⟨_, rfl⟩, fun _ => ⟨_, rfl⟩, fun _ _ _ _ _ _ _ _ _ _ _ _ _ _ => ⟨_, rfl⟩, fun _ _ _ _ _ _ _ _ _ _ _ _ _ _ _ => rfl⟩
theorem pp_30_7 : PP [98, 98, 98, 98] [97, 97, 97] := ⟨fun _ => ⟨_, rfl⟩, fun _ => ⟨_, rfl⟩, fun _ _ _ _ _ _ _ _ _ _ _ _ _ _ => ⟨_, rfl⟩, fun _ _ _ _ _ _ _ _ _ _ _ _ _ _ _ => rfl⟩
theorem pp_30_8 : PP [98, 98, 98, 98] [97, 97, 98] := ⟨fun _ => ⟨_, rfl⟩, fun _ => ⟨_, rfl⟩, fun _ _ _ _ _ _ _ _ _ _ _ _ _ _ => ⟨_, rfl⟩, fun _ _ _ _ _ _ _ _ _ _ _ _ _ _ _ => rfl⟩
theorem pp_30_9 : PP [98, 98, 98, 98] [97, 98, 97] := ⟨fun _ => ⟨_, rfl⟩, fun _ => ⟨_, rfl⟩, fun _ _ _ _ _ _ _ _ _ _ _ _ _ _ => ⟨_, rfl⟩, fun _ _ _ _ _ _ _ _ _ _ _ _ _ _ _ => rfl⟩
theorem pp_30_10 : PP [98, 98, 98, 98] [97, 98, 98] := ⟨fun _ => ⟨_, rfl⟩, fun _ => ⟨_, rfl⟩, fun _ _ _ _ _ _ _ _ _ _ _ _ _ _ => ⟨_, rfl⟩, fun _ _ _ _ _ _ _ _ _ _ _ _ _ _ _ => rfl⟩
theorem pp_30_11 : PP [98, 98, 98, 98] [98, 97, 97] := ⟨fun _ => ⟨_, rfl⟩, fun _ => ⟨_, rfl⟩, fun _ _ _ _ _ _ _ _ _ _ _ _ _ _ => ⟨_, rfl⟩, fun _ _ _ _ _ _ _ _ _ _ _ _ _ _ _ => rfl⟩
theorem pp_30_12 : PP [98, 98, 98, 98] [98, 97, 98] := ⟨fun _ => ⟨_, rfl⟩, fun _ => ⟨_, rfl⟩, fun _ _ _ _ _ _ _ _ _ _ _ _ _ _ => ⟨_, rfl⟩, fun _ _ _ _ _ _ _ _ _ _ _ _ _ _ _ => rfl⟩
theorem pp_30_13 : PP [98, 98, 98, 98] [98, 98, 97] := ⟨fun _ => ⟨_, rfl⟩, fun _ => ⟨_, rfl⟩, fun _ _ _ _ _ _ _ _ _ _ _ _ _ _ => ⟨_, rfl⟩, fun _ _ _ _ _ _ _ _ _ _ _ _ _ _ _ => rfl⟩
theorem pp_30_14 : PP [98, 98, 98, 98] [98, 98, 98] := ⟨fun _ => ⟨_, rfl⟩, fun _ => ⟨_, rfl⟩, fun _ _ _ _ _ _ _ _ _ _ _ _ _ _ => ⟨_, rfl⟩, fun _ _ _ _ _ _ _ _ _ _ _ _ _ _ _ => rfl⟩
theorem pp_30_15 : PP [98, 98, 98, 98] [97, 97, 97, 97] := ⟨fun _ => ⟨_, rfl⟩, fun _ => ⟨_, rfl⟩, fun _ _ _ _ _ _ _ _ _ _ _ _ _ _ => ⟨_, rfl⟩, fun _ _ _ _ _ _ _ _ _ _ _ _ _ _ _ => rfl⟩
theorem pp_30_16 : PP [98, 98, 98, 98] [97, 97, 97, 98] := ⟨fun _ => ⟨_, rfl⟩, fun _ => ⟨_, rfl⟩, fun _ _ _ _ _ _ _ _ _ _ _ _ _ _ => ⟨_, rfl⟩, fun _ _ _ _ _ _ _ _ _ _ _ _ _ _ _ => rfl⟩
theorem pp_30_17 : PP [98, 98, 98, 98] [97, 97, 98, 97] := ⟨fun _ => ⟨_, rfl⟩, fun _ => ⟨_, rfl⟩, fun _ _ _ _ _ _ _ _ _ _ _ _ _ _ => ⟨_, rfl⟩, fun _ _ _ _ _ _ _ _ _ _ _ _ _ _ _ => rfl⟩
theorem pp_30_18 : PP [98, 98, 98, 98] [97, 97, 98, 98] := ⟨fun _ => ⟨_, rfl⟩, fun _ => ⟨_, rfl⟩, fun _ _ _ _ _ _ _ _ _ _ _ _ _ _ => ⟨_, rfl⟩, fun _ _ _ _ _ _ _ _ _ _ _ _ _ _ _ => rfl⟩
theorem pp_30_19 : PP [98, 98, 98, 98] [97, 98, 97, 97] := ⟨fun _ => ⟨_, rfl⟩, fun _ => ⟨_, rfl⟩, fun _ _ _ _ _ _ _ _ _ _ _ _ _ _ => ⟨_, rfl⟩, fun _ _ _ _ _ _ _ _ _ _ _ _ _ _ _ => rfl⟩
theorem pp_30_20 : PP [98, 98, 98, 98] [97, 98, 97, 98] := ⟨fun _ => ⟨_, rfl⟩, fun _ => ⟨_, rfl⟩, fun _ _ _ _ _ _ _ _ _ _ _ _ _ _ => ⟨_, rfl⟩, fun _ _ _ _ _ _ _ _ _ _ _ _ _ _ _ => rfl⟩
theorem pp_30_21 : PP [98, 98, 98, 98] [97, 98, 98, 97] := ⟨fun _ => ⟨_, rfl⟩, fun _ => ⟨_, rfl⟩, fun _ _ _ _ _ _ _ _ _ _ _ _ _ _ => ⟨_, rfl⟩, fun _ _ _ _ _ _ _ _ _ _ _ _ _ _ _ => rfl⟩
theorem pp_30_22 : PP [98, 98, 98, 98] [97, 98, 98, 98] := ⟨fun _ => ⟨_, rfl⟩, fun _ => ⟨_, rfl⟩, fun _ _ _ _ _ _ _ _ _ _ _ _ _ _ => ⟨_, rfl⟩, fun _ _ _ _ _ _ _ _ _ _ _ _ _ _ _ => rfl⟩
theorem pp_30_23 : PP [98, 98, 98, 98] [98, 97, 97, 97] := ⟨fun _ => ⟨_, rfl⟩, fun _ => ⟨_, rfl⟩, fun _ _ _ _ _ _ _ _ _ _ _ _ _ _ => ⟨_, rfl⟩, fun _ _ _ _ _ _ _ _ _ _ _ _ _ _ _ => rfl⟩
theorem pp_30_24 : PP [98, 98, 98, 98] [98, 97, 97, 98] := ⟨fun _ => ⟨_, rfl⟩, fun _ => ⟨_, rfl⟩, fun _ _ _ _ _ _ _ _ _ _ _ _ _ _ => ⟨_, rfl⟩, fun _ _ _ _ _ _ _ _ _ _ _ _ _ _ _ => rfl⟩
theorem pp_30_25 : PP [98, 98, 98, 98] [98, 97, 98, 97] := ⟨fun _ => ⟨_, rfl⟩, fun _ => ⟨_, rfl⟩, fun _ _ _ _ _ _ _ _ _ _ _ _ _ _ => ⟨_, rfl⟩, fun _ _ _ _ _ _ _ _ _ _ _ _ _ _ _ => rfl⟩
theorem pp_30_26 : PP [98, 98, 98, 98] [98, 97, 98, 98] := ⟨fun _ => ⟨_, rfl⟩, fun _ => ⟨_, rfl⟩, fun _ _ _ _ _ _ _ _ _ _ _ _ _ _ => ⟨_, rfl⟩, fun _ _ _ _ _ _ _ _ _ _ _ _ _ _ _ => rfl⟩
theorem pp_30_27 : PP [98, 98, 98, 98] [98, 98, 97, 97] := ⟨fun _ => ⟨_, rfl⟩, fun _ => ⟨_, rfl⟩, fun _ _ _ _ _ _ _ _ _ _ _ _ _ _ => ⟨_, rfl⟩, fun _ _ _ _ _ _ _ _ _ _ _ _ _ _ _ => rfl⟩
theorem pp_30_28 : PP [98, 98, 98, 98] [98, 98, 97, 98] := ⟨fun _ => ⟨_, rfl⟩, fun _ => ⟨_, rfl⟩, fun _ _ _ _ _ _ _ _ _ _ _ _ _ _ => ⟨_, rfl⟩, fun _ _ _ _ _ _ _ _ _ _ _ _ _ _ _ => rfl⟩
theorem pp_30_29 : PP [98, 98, 98, 98] [98, 98, 98, 97] := ⟨fun _ => ⟨_, rfl⟩, fun _ => ⟨_, rfl⟩, fun _ _ _ _ _ _ _ _ _ _ _ _ _ _ => ⟨_, rfl⟩, fun _ _ _ _ _ _ _ _ _ _ _ _ _ _ _ => rfl⟩
theorem pp_30_30 : PP [98, 98, 98, 98] [98, 98, 98, 98] := ⟨fun _ => ⟨_, rfl⟩, fun _ => ⟨_, rfl⟩, fun _ _ _ _ _ _ _ _ _ _ _ _ _ _ => ⟨_, rfl⟩, fun _ _ _ _ _ _ _ _ _ _ _ _ _ _ _ => rfl⟩
theorem pa_0 : ∀ c1 ∈ allW, PP [] c1 := by
  unfold allW
  simp only [List.forall_mem_cons, List.not_mem_nil, false_implies, implies_true, and_true]
  exact ⟨pp_0_0, pp_0_1, pp_0_2, pp_0_3, pp_0_4, pp_0_5, pp_0_6, pp_0_7, pp_0_8, pp_0_9, pp_0_10, pp_0_11, pp_0_12, pp_0_13, pp_0_14, pp_0_15, pp_0_16, pp_0_17, pp_0_18, pp_0_19, pp_0_20, pp_0_21, pp_0_22, pp_0_23, pp_0_24, pp_0_25, pp_0_26, pp_0_27, pp_0_28, pp_0_29, pp_0_30⟩
theorem pa_1 : ∀ c1 ∈ allW, PP [97] c1 := by
  unfold allW
  simp only [List.forall_mem_cons, List.not_mem_nil, false_implies, implies_true, and_true]
  exact ⟨pp_1_0, pp_1_1, pp_1_2, pp_1_3, pp_1_4, pp_1_5, pp_1_6, pp_1_7, pp_1_8, pp_1_9, pp_1_10, pp_1_11, pp_1_12, pp_1_13, pp_1_14, pp_1_15, pp_1_16, pp_1_17, pp_1_18, pp_1_19, pp_1_20, pp_1_21, pp_1_22, pp_1_23, pp_1_24, pp_1_25, pp_1_26, pp_1_27, pp_1_28, pp_1_29, pp_1_30⟩
theorem pa_2 : ∀ c1 ∈ allW, PP [98] c1 := by
  unfold allW
  simp only [List.forall_mem_cons, List.not_mem_nil, false_implies, implies_true, and_true]
  exact ⟨pp_2_0, pp_2_1, pp_2_2, pp_2_3, pp_2_4, pp_2_5, pp_2_6, pp_2_7, pp_2_8, pp_2_9, pp_2_10, pp_2_11, pp_2_12, pp_2_13, pp_2_14, pp_2_15, pp_2_16, pp_2_17, pp_2_18, pp_2_19, pp_2_20, pp_2_21, pp_2_22, pp_2_23, pp_2_24, pp_2_25, pp_2_26, pp_2_27, pp_2_28, pp_2_29, pp_2_30⟩
theorem pa_3 : ∀ c1 ∈ allW, PP [97, 97] c1 := by
  unfold allW
  simp only [List.forall_mem_cons, List.not_mem_nil, false_implies, implies_true, and_true]
  exact ⟨pp_3_0, pp_3_1, pp_3_2, pp_3_3, pp_3_4, pp_3_5, pp_3_6, pp_3_7, pp_3_8, pp_3_9, pp_3_10, pp_3_11, pp_3_12, pp_3_13, pp_3_14, pp_3_15, pp_3_16, pp_3_17, pp_3_18, pp_3_19, pp_3_20, pp_3_21, pp_3_22, pp_3_23, pp_3_24, pp_3_25, pp_3_26, pp_3_27, pp_3_28, pp_3_29, pp_3_30⟩
theorem pa_4 : ∀ c1 ∈ allW, PP [97, 98] c1 := by
  unfold allW
  simp only [List.forall_mem_cons, List.not_mem_nil, false_implies, implies_true, and_true]
  exact ⟨pp_4_0, pp_4_1, pp_4_2, pp_4_3, pp_4_4, pp_4_5, pp_4_6, pp_4_7, pp_4_8, pp_4_9, pp_4_10, pp_4_11, pp_4_12, pp_4_13, pp_4_14, pp_4_15, pp_4_16, pp_4_17, pp_4_18, pp_4_19, pp_4_20, pp_4_21, pp_4_22, pp_4_23, pp_4_24, pp_4_25, pp_4_26, pp_4_27, pp_4_28, pp_4_29, pp_4_30⟩
theorem pa_5 : ∀ c1 ∈ allW, PP [98, 97] c1 := by
  unfold allW
  simp only [List.forall_mem_cons, List.not_mem_nil, false_implies, implies_true, and_true]
  exact ⟨pp_5_0, pp_5_1, pp_5_2, pp_5_3, pp_5_4, pp_5_5, pp_5_6, pp_5_7, pp_5_8, pp_5_9, pp_5_10, pp_5_11, pp_5_12, pp_5_13, pp_5_14, pp_5_15, pp_5_16, pp_5_17, pp_5_18, pp_5_19, pp_5_20, pp_5_21, pp_5_22, pp_5_23, pp_5_24, pp_5_25, pp_5_26, pp_5_27, pp_5_28, pp_5_29, pp_5_30⟩
theorem pa_6 : ∀ c1 ∈ allW, PP [98, 98] c1 := by
  unfold allW
  simp only [List.forall_mem_cons, List.not_mem_nil, false_implies, implies_true, and_true]
  exact ⟨pp_6_0, pp_6_1, pp_6_2, pp_6_3, pp_6_4, pp_6_5, pp_6_6, pp_6_7, pp_6_8, pp_6_9, pp_6_10, pp_6_11, pp_6_12, pp_6_13, pp_6_14, pp_6_15, pp_6_16, pp_6_17, pp_6_18, pp_6_19, pp_6_20, pp_6_21, pp_6_22, pp_6_23, pp_6_24, pp_6_25, pp_6_26, pp_6_27, pp_6_28, pp_6_29, pp_6_30⟩
theorem pa_7 : ∀ c1 ∈ allW, PP [97, 97, 97] c1 := by
  unfold allW
  simp only [List.forall_mem_cons, List.not_mem_nil, false_implies, implies_true, and_true]
  exact ⟨pp_7_0, pp_7_1, pp_7_2, pp_7_3, pp_7_4, pp_7_5, pp_7_6, pp_7_7, pp_7_8, pp_7_9, pp_7_10, pp_7_11, pp_7_12, pp_7_13, pp_7_14, pp_7_15, pp_7_16, pp_7_17, pp_7_18, pp_7_19, pp_7_20, pp_7_21, pp_7_22, pp_7_23, pp_7_24, pp_7_25, pp_7_26, pp_7_27, pp_7_28, pp_7_29, pp_7_30⟩
theorem pa_8 : ∀ c1 ∈ allW, PP [97, 97, 98] c1 := by
  unfold allW
  simp only [List.forall_mem_cons, List.not_mem_nil, false_implies, implies_true, and_true]
  exact ⟨pp_8_0, pp_8_1, pp_8_2, pp_8_3, pp_8_4, pp_8_5, pp_8_6, pp_8_7, pp_8_8, pp_8_9, pp_8_10, pp_8_11, pp_8_12, pp_8_13, pp_8_14, pp_8_15, pp_8_16, pp_8_17, pp_8_18, pp_8_19, pp_8_20, pp_8_21, pp_8_22, pp_8_23, pp_8_24, pp_8_25, pp_8_26, pp_8_27, pp_8_28, pp_8_29, pp_8_30⟩
theorem pa_9 : ∀ c1 ∈ allW, PP [97, 98, 97] c1 := by
  unfold allW
  simp only [List.forall_mem_cons, List.not_mem_nil, false_implies, implies_true, and_true]
  exact ⟨pp_9_0, pp_9_1, pp_9_2, pp_9_3, pp_9_4, pp_9_5, pp_9_6, pp_9_7, pp_9_8, pp_9_9, pp_9_10, pp_9_11, pp_9_12, pp_9_13, pp_9_14, pp_9_15, pp_9_16, pp_9_17, pp_9_18, pp_9_19, pp_9_20, pp_9_21, pp_9_22, pp_9_23, pp_9_24, pp_9_25, pp_9_26, pp_9_27, pp_9_28, pp_9_29, pp_9_30⟩
theorem pa_10 : ∀ c1 ∈ allW, PP [97, 98, 98] c1 := by
  unfold allW
  simp only [List.forall_mem_cons, List.not_mem_nil, false_implies, implies_true, and_true]
  exact ⟨pp_10_0, pp_10_1, pp_10_2, pp_10_3, pp_10_4, pp_10_5, pp_10_6, pp_10_7, pp_10_8, pp_10_9, pp_10_10, pp_10_11, pp_10_12, pp_10_13, pp_10_14, pp_10_15, pp_10_16, pp_10_17, pp_10_18, pp_10_19, pp_10_20, pp_10_21, pp_10_22, pp_10_23, pp_10_24, pp_10_25, pp_10_26, pp_10_27, pp_10_28, pp_10_29, pp_10_30⟩
theorem pa_11 : ∀ c1 ∈ allW, PP [98, 97, 97] c1 := by
  unfold allW
  simp only [List.forall_mem_cons, List.not_mem_nil, false_implies, implies_true, and_true]
  exact ⟨pp_11_0, pp_11_1, pp_11_2, pp_11_3, pp_11_4, pp_11_5, pp_11_6, pp_11_7, pp_11_8, pp_11_9, pp_11_10, pp_11_11, pp_11_12, pp_11_13, pp_11_14, pp_11_15, pp_11_16, pp_11_17, pp_11_18, pp_11_19, pp_11_20, pp_11_21, pp_11_22, pp_11_23, pp_11_24, pp_11_25, pp_11_26, pp_11_27, pp_11_28, pp_11_29, pp_11_30⟩
theorem pa_12 : ∀ c1 ∈ allW, PP [98, 97, 98] c1 := by
  unfold allW
  simp only [List.forall_mem_cons, List.not_mem_nil, false_implies, implies_true, and_true]
  exact ⟨pp_12_0, pp_12_1, pp_12_2, pp_12_3, pp_12_4, pp_12_5, pp_12_6, pp_12_7, pp_12_8, pp_12_9, pp_12_10, pp_12_11, pp_12_12, pp_12_13, pp_12_14, pp_12_15, pp_12_16, pp_12_17, pp_12_18, pp_12_19, pp_12_20, pp_12_21, pp_12_22, pp_12_23, pp_12_24, pp_12_25, pp_12_26, pp_12_27, pp_12_28, pp_12_29, pp_12_30⟩
theorem pa_13 : ∀ c1 ∈ allW, PP [98, 98, 97] c1 := by
  unfold allW
  simp only [List.forall_mem_cons, List.not_mem_nil, false_implies, implies_true, and_true]
  exact ⟨pp_13_0, pp_13_1, pp_13_2, pp_13_3, pp_13_4, pp_13_5, pp_13_6, pp_13_7, pp_13_8, pp_13_9, pp_13_10, pp_13_11, pp_13_12, pp_13_13, pp_13_14, pp_13_15, pp_13_16, pp_13_17, pp_13_18, pp_13_19, pp_13_20, pp_13_21, pp_13_22, pp_13_23, pp_13_24, pp_13_25, pp_13_26, pp_13_27, pp_13_28, pp_13_29, pp_13_30⟩
theorem pa_14 : ∀ c1 ∈ allW, PP [98, 98, 98] c1 := by
  unfold allW
  simp only [List.forall_mem_cons, List.not_mem_nil, false_implies, implies_true, and_true]
  exact ⟨pp_14_0, pp_14_1, pp_14_2, pp_14_3, pp_14_4, pp_14_5, pp_14_6, pp_14_7, pp_14_8, pp_14_9, pp_14_10, pp_14_11, pp_14_12, pp_14_13, pp_14_14, pp_14_15, pp_14_16, pp_14_17, pp_14_18, pp_14_19, pp_14_20, pp_14_21, pp_14_22, pp_14_23, pp_14_24, pp_14_25, pp_14_26, pp_14_27, pp_14_28, pp_14_29, pp_14_30⟩
theorem pa_15 : ∀ c1 ∈ allW, PP [97, 97, 97, 97] c1 := by
  unfold allW
  simp only [List.forall_mem_cons, List.not_mem_nil, false_implies, implies_true, and_true]
  exact ⟨pp_15_0, pp_15_1, pp_15_2, pp_15_3, pp_15_4, pp_15_5, pp_15_6, pp_15_7, pp_15_8, pp_15_9, pp_15_10, pp_15_11, pp_15_12, pp_15_13, pp_15_14, pp_15_15, pp_15_16, pp_15_17, pp_15_18, pp_15_19, pp_15_20, pp_15_21, pp_15_22, pp_15_23, pp_15_24, pp_15_25, pp_15_26, pp_15_27, pp_15_28, pp_15_29, pp_15_30⟩
theorem pa_16 : ∀ c1 ∈ allW, PP [97, 97, 97, 98] c1 := by
  unfold allW
  simp only [List.forall_mem_cons, List.not_mem_nil, false_implies, implies_true, and_true]
  exact ⟨pp_16_0, pp_16_1, pp_16_2, pp_16_3, pp_16_4, pp_16_5, pp_16_6, pp_16_7, pp_16_8, pp_16_9, pp_16_10, pp_16_11, pp_16_12, pp_16_13, pp_16_14, pp_16_15, pp_16_16, pp_16_17, pp_16_18, pp_16_19, pp_16_20, pp_16_21, pp_16_22, pp_16_23, pp_16_24, pp_16_25, pp_16_26, pp_16_27, pp_16_28, pp_16_29, pp_16_30⟩
theorem pa_17 : ∀ c1 ∈ allW, PP [97, 97, 98, 97] c1 := by
  unfold allW
  simp only [List.forall_mem_cons, List.not_mem_nil, false_implies, implies_true, and_true]
  exact ⟨pp_17_0, pp_17_1, pp_17_2, pp_17_3, pp_17_4, pp_17_5, pp_17_6, pp_17_7, pp_17_8, pp_17_9, pp_17_10, pp_17_11, pp_17_12, pp_17_13, pp_17_14, pp_17_15, pp_17_16, pp_17_17, pp_17_18, pp_17_19, pp_17_20, pp_17_21, pp_17_22, pp_17_23, pp_17_24, pp_17_25, pp_17_26, pp_17_27, pp_17_28, pp_17_29, pp_17_30⟩
theorem pa_18 : ∀ c1 ∈ allW, PP [97, 97, 98, 98] c1 := by
  unfold allW
  simp only [List.forall_mem_cons, List.not_mem_nil, false_implies, implies_true, and_true]
  exact ⟨pp_18_0, pp_18_1, pp_18_2, pp_18_3, pp_18_4, pp_18_5, pp_18_6, pp_18_7, pp_18_8, pp_18_9, pp_18_10, pp_18_11, pp_18_12, pp_18_13, pp_18_14, pp_18_15, pp_18_16, pp_18_17, pp_18_18, pp_18_19, pp_18_20, pp_18_21, pp_18_22, pp_18_23, pp_18_24, pp_18_25, pp_18_26, pp_18_27, pp_18_28, pp_18_29, pp_18_30⟩
theorem pa_19 : ∀ c1 ∈ allW, PP [97, 98, 97, 97] c1 := by
  unfold allW
  simp only [List.forall_mem_cons, List.not_mem_nil, false_implies, implies_true, and_true]
  exact ⟨pp_19_0, pp_19_1, pp_19_2, pp_19_3, pp_19_4, pp_19_5, pp_19_6, pp_19_7, pp_19_8, pp_19_9, pp_19_10, pp_19_11, pp_19_12, pp_19_13, pp_19_14, pp_19_15, pp_19_16, pp_19_17, pp_19_18, pp_19_19, pp_19_20, pp_19_21, pp_19_22, pp_19_23, pp_19_24, pp_19_25, pp_19_26, pp_19_27, pp_19_28, pp_19_29, pp_19_30⟩
theorem pa_20 : ∀ c1 ∈ allW, PP [97, 98, 97, 98] c1 := by
  unfold allW
  simp only [List.forall_mem_cons, List.not_mem_nil, false_implies, implies_true, and_true]
  exact ⟨pp_20_0, pp_20_1, pp_20_2, pp_20_3, pp_20_4, pp_20_5, pp_20_6, pp_20_7, pp_20_8, pp_20_9, pp_20_10, pp_20_11, pp_20_12, pp_20_13, pp_20_14, pp_20_15, pp_20_16, pp_20_17, pp_20_18, pp_20_19, pp_20_20, pp_20_21, pp_20_22, pp_20_23, pp_20_24, pp_20_25, pp_20_26, pp_20_27, pp_20_28, pp_20_29, pp_20_30⟩
theorem pa_21 : ∀ c1 ∈ allW, PP [97, 98, 98, 97] c1 := by
  unfold allW
  simp only [List.forall_mem_cons, List.not_mem_nil, false_implies, implies_true, and_true]
  exact ⟨pp_21_0, pp_21_1, pp_21_2, pp_21_3, pp_21_4, pp_21_5, pp_21_6, pp_21_7, pp_21_8, pp_21_9, pp_21_10, pp_21_11, pp_21_12, pp_21_13, pp_21_14, pp_21_15, pp_21_16, pp_21_17, pp_21_18, pp_21_19, pp_21_20, pp_21_21, pp_21_22, pp_21_23, pp_21_24, pp_21_25, pp_21_26, pp_21_27, pp_21_28, pp_21_29, pp_21_30⟩
theorem pa_22 : ∀ c1 ∈ allW, PP [97, 98, 98, 98] c1 := by
  unfold allW
  simp only [List.forall_mem_cons, List.not_mem_nil, false_implies, implies_true, and_true]
  exact ⟨pp_22_0, pp_22_1, pp_22_2, pp_22_3, pp_22_4, pp_22_5, pp_22_6, pp_22_7, pp_22_8, pp_22_9, pp_22_10, pp_22_11, pp_22_12, pp_22_13, pp_22_14, pp_22_15, pp_22_16, pp_22_17, pp_22_18, pp_22_19, pp_22_20, pp_22_21, pp_22_22, pp_22_23, pp_22_24, pp_22_25, pp_22_26, pp_22_27, pp_22_28, pp_22_29, pp_22_30⟩
theorem pa_23 : ∀ c1 ∈ allW, PP [98, 97, 97, 97] c1 := by
  unfold allW
  simp only [List.forall_mem_cons, List.not_mem_nil, false_implies, implies_true, and_true]
  exact ⟨pp_23_0, pp_23_1, pp_23_2, pp_23_3, pp_23_4, pp_23_5, pp_23_6, pp_23_7, pp_23_8, pp_23_9, pp_23_10, pp_23_11, pp_23_12, pp_23_13, pp_23_14, pp_23_15, pp_23_16, pp_23_17, pp_23_18, pp_23_19, pp_23_20, pp_23_21, pp_23_22, pp_23_23, pp_23_24, pp_23_25, pp_23_26, pp_23_27, pp_23_28, pp_23_29, pp_23_30⟩
theorem pa_24 : ∀ c1 ∈ allW, PP [98, 97, 97, 98] c1 := by
  unfold allW
  simp only [List.forall_mem_cons, List.not_mem_nil, false_implies, implies_true, and_true]
  exact ⟨pp_24_0, pp_24_1, pp_24_2, pp_24_3, pp_24_4, pp_24_5, pp_24_6, pp_24_7, pp_24_8, pp_24_9, pp_24_10, pp_24_11, pp_24_12, pp_24_13, pp_24_14, pp_24_15, pp_24_16, pp_24_17, pp_24_18, pp_24_19, pp_24_20, pp_24_21, pp_24_22, pp_24_23, pp_24_24, pp_24_25, pp_24_26, pp_24_27, pp_24_28, pp_24_29, pp_24_30⟩
theorem pa_25 : ∀ c1 ∈ allW, PP [98, 97, 98, 97] c1 := by
  unfold allW
  simp only [List.forall_mem_cons, List.not_mem_nil, false_implies, implies_true, and_true]
  exact ⟨pp_25_0, pp_25_1, pp_25_2, pp_25_3, pp_25_4, pp_25_5, pp_25_6, pp_25_7, pp_25_8, pp_25_9, pp_25_10, pp_25_11, pp_25_12, pp_25_13, pp_25_14, pp_25_15, pp_25_16, pp_25_17, pp_25_18, pp_25_19, pp_25_20, pp_25_21, pp_25_22, pp_25_23, pp_25_24, pp_25_25, pp_25_26, pp_25_27, pp_25_28, pp_25_29, pp_25_30⟩
theorem pa_26 : ∀ c1 ∈ allW, PP [98, 97, 98, 98] c1 := by
  unfold allW
  simp only [List.forall_mem_cons, List.not_mem_nil, false_implies, implies_true, and_true]
  exact ⟨pp_26_0, pp_26_1, pp_26_2, pp_26_3, pp_26_4, pp_26_5, pp_26_6, pp_26_7, pp_26_8, pp_26_9, pp_26_10, pp_26_11, pp_26_12, pp_26_13, pp_26_14, pp_26_15, pp_26_16, pp_26_17, pp_26_18, pp_26_19, pp_26_20, pp_26_21, pp_26_22, pp_26_23, pp_26_24, pp_26_25, pp_26_26, pp_26_27, pp_26_28, pp_26_29, pp_26_30⟩
theorem pa_27 : ∀ c1 ∈ allW, PP [98, 98, 97, 97] c1 := by
  unfold allW
  simp only [List.forall_mem_cons, List.not_mem_nil, false_implies, implies_true, and_true]
  exact ⟨pp_27_0, pp_27_1, pp_27_2, pp_27_3, pp_27_4, pp_27_5, pp_27_6, pp_27_7, pp_27_8, pp_27_9, pp_27_10, pp_27_11, pp_27_12, pp_27_13, pp_27_14, pp_27_15, pp_27_16, pp_27_17, pp_27_18, pp_27_19, pp_27_20, pp_27_21, pp_27_22, pp_27_23, pp_27_24, pp_27_25, pp_27_26, pp_27_27, pp_27_28, pp_27_29, pp_27_30⟩
theorem pa_28 : ∀ c1 ∈ allW, PP [98, 98, 97, 98] c1 := by
  unfold allW
  simp only [List.forall_mem_cons, List.not_mem_nil, false_implies, implies_true, and_true]
  exact ⟨pp_28_0, pp_28_1, pp_28_2, pp_28_3, pp_28_4, pp_28_5, pp_28_6, pp_28_7, pp_28_8, pp_28_9, pp_28_10, pp_28_11, pp_28_12, pp_28_13, pp_28_14, pp_28_15, pp_28_16, pp_28_17, pp_28_18, pp_28_19, pp_28_20, pp_28_21, pp_28_22, pp_28_23, pp_28_24, pp_28_25, pp_28_26, pp_28_27, pp_28_28, pp_28_29, pp_28_30⟩
theorem pa_29 : ∀ c1 ∈ allW, PP [98, 98, 98, 97] c1 := by
  unfold allW
  simp only [List.forall_mem_cons, List.not_mem_nil, false_implies, implies_true, and_true]
  exact ⟨pp_29_0, pp_29_1, pp_29_2, pp_29_3, pp_29_4, pp_29_5, pp_29_6, pp_29_7, pp_29_8, pp_29_9, pp_29_10, pp_29_11, pp_29_12, pp_29_13, pp_29_14, pp_29_15, pp_29_16, pp_29_17, pp_29_18, pp_29_19, pp_29_20, pp_29_21, pp_29_22, pp_29_23, pp_29_24, pp_29_25, pp_29_26, pp_29_27, pp_29_28, pp_29_29, pp_29_30⟩
theorem pa_30 : ∀ c1 ∈ allW, PP [98, 98, 98, 98] c1 := by
  unfold allW
  simp only [List.forall_mem_cons, List.not_mem_nil, false_implies, implies_true, and_true]
  exact ⟨pp_30_0, pp_30_1, pp_30_2, pp_30_3, pp_30_4, pp_30_5, pp_30_6, pp_30_7, pp_30_8, pp_30_9, pp_30_10, pp_30_11, pp_30_12, pp_30_13, pp_30_14, pp_30_15, pp_30_16, pp_30_17, pp_30_18, pp_30_19, pp_30_20, pp_30_21, pp_30_22, pp_30_23, pp_30_24, pp_30_25, pp_30_26, pp_30_27, pp_30_28, pp_30_29, pp_30_30⟩
end G66

set_option Elab.async false
set_option linter.all false
set_option maxRecDepth 100000
set_option maxHeartbeats 4000000
namespace G66
open PySem DL

theorem allW_mem {w : List Nat} (h : Wd w) (hl : w.length ≤ 4) : w ∈ allW := by
  match w, h, hl with
  | [], _, _ => simp [allW]
  | [a], h, _ => rcases h a (by simp) with rfl | rfl <;> simp [allW]
  | [a, b], h, _ => rcases h a (by simp) with rfl | rfl <;> rcases h b (by simp) with rfl | rfl <;> simp [allW]
  | [a, b, c], h, _ => rcases h a (by simp) with rfl | rfl <;> rcases h b (by simp) with rfl | rfl <;> rcases h c (by simp) with rfl | rfl <;> simp [allW]
  | [a, b, c, d], h, _ => rcases h a (by simp) with rfl | rfl <;> rcases h b (by simp) with rfl | rfl <;> rcases h c (by simp) with rfl | rfl <;> rcases h d (by simp) with rfl | rfl <;> simp [allW]
  | _ :: _ :: _ :: _ :: _ :: _, _, hl => simp at hl <;> omega
theorem pp_all {c0 c1 : List Nat} (h0 : c0 ∈ allW) (h1 : c1 ∈ allW) : PP c0 c1 := by
  have h0 : c0 ∈ [[], [97], [98], [97, 97], [97, 98], [98, 97], [98, 98], [97, 97, 97], [97, 97, 98], [97, 98, 97], [97, 98, 98], [98, 97, 97], [98, 97, 98], [98, 98, 97], [98, 98, 98], [97, 97, 97, 97], [97, 97, 97, 98], [97, 97, 98, 97], [97, 97, 98, 98], [97, 98, 97, 97], [97, 98, 97, 98], [97, 98, 98, 97], [97, 98, 98, 98], [98, 97, 97, 97], [98, 97, 97, 98], [98, 97, 98, 97], [98, 97, 98, 98], [98, 98, 97, 97], [98, 98, 97, 98], [98, 98, 98, 97], [98, 98, 98, 98]] := h0
  simp only [List.mem_cons, List.not_mem_nil, or_false] at h0
  rcases h0 with rfl | rfl | rfl | rfl | rfl | rfl | rfl | rfl | rfl | rfl | rfl | rfl | rfl | rfl | rfl | rfl | rfl | rfl | rfl | rfl | rfl | rfl | rfl | rfl | rfl | rfl | rfl | rfl | rfl | rfl | rfl
  · exact pa_0 _ h1
  · exact pa_1 _ h1
  · exact pa_2 _ h1
  · exact pa_3 _ h1
  · exact pa_4 _ h1
  · exact pa_5 _ h1
  · exact pa_6 _ h1
  · exact pa_7 _ h1
  · exact pa_8 _ h1
  · exact pa_9 _ h1
  · exact pa_10 _ h1
  · exact pa_11 _ h1
  · exact pa_12 _ h1
  · exact pa_13 _ h1
  · exact pa_14 _ h1
  · exact pa_15 _ h1
  · exact pa_16 _ h1
  · exact pa_17 _ h1
  · exact pa_18 _ h1
  · exact pa_19 _ h1
  · exact pa_20 _ h1
  · exact pa_21 _ h1
  · exact pa_22 _ h1
  · exact pa_23 _ h1
  · exact pa_24 _ h1
  · exact pa_25 _ h1
  · exact pa_26 _ h1
  · exact pa_27 _ h1
  · exact pa_28 _ h1
  · exact pa_29 _ h1
  · exact pa_30 _ h1
theorem pp_cd : ∀ c0 c1, Cd c0 c1 → PP c0 c1 := fun _ _ c => pp_all (allW_mem c.1 c.2.2.1) (allW_mem c.2.1 c.2.2.2)
end G66

set_option Elab.async false
set_option linter.all false
set_option maxRecDepth 6300
set_option maxHeartbeats 4000000
namespace G66
open PySem PySem.Spec PyProof.Rows L2 DL LamX
theorem law_at {l : PySem.W.OpenLaw} {w : World} {K : PySem.W.Frag} {mg : Str → Option Value} {fa : Addr} {h : Heap} (T : Txt K mg) (hfa : mg "law" = some (.ref fa)) (plain : ∀ ns : List Int, ∃ ρ' h', B_law T.tb_law T.tb__law_case_right ρ0 (hand0 (tabs66 T) ns) = .ok (.ret (.bl true)) ρ' h')
    (z : mg "law" = some (.ref T.a_law) ∧ PySem.W.CodeHd h T.cd__law_case_right T.tb__law_case_right ∧ h.get? T.tb__law_case_right = some (PySem.W.tabObj #[]) ∧ K.lookup T.tb__law_case_right = none ∧ PySem.W.CodeHd h T.cd_law T.tb_law ∧ h.get? T.tb_law = some (PySem.W.tabObj #[]) ∧ K.lookup T.tb_law = none ∧ T.tb__law_case_right ≠ T.tb_law) :
    LawAtS l w K C8.CX0 8 63 "script" mg fa h := by
  obtain ⟨z1, z2, z3, z4, z5, z6, z7, z8⟩ := z
  rw [hfa] at z1
  obtain rfl : fa = T.a_law := by cases z1; rfl
  have two : ∀ {Q : Addr × Addr → Prop}, Q (T.cd_law, T.tb_law) → Q (T.cd__law_case_right, T.tb__law_case_right) → ∀ p ∈ [(T.cd_law, T.tb_law), (T.cd__law_case_right, T.tb__law_case_right)], Q p := fun a b p hp => by
    rcases List.mem_cons.mp hp with rfl | hp
    · exact a
    · rw [List.mem_singleton.mp hp]; exact b
  refine ⟨T.d_law, [(T.cd_law, T.tb_law), (T.cd__law_case_right, T.tb__law_case_right)], spLaw K (tabs66 T), two z6 z3, two z7 z4, two z5 z2, fun s u => ?_, fun H a ns hn _ hT hs => ⟨a, ns, rfl, hs, hn, ?_, fun _ => rfl⟩, fun base X G hTB => ok_law T (hTB _ (.head _)) (hTB _ (.tail _ (.head _))) plain⟩
  · obtain ⟨oc, od, kV, doc, pm, an, cdv, ct, osl, e, lk, hcd⟩ := T.F_law.ex
    rw [e]
    exact .of_eq rfl
  · intro p hp
    rcases List.mem_cons.mp hp with rfl | hp
    · exact TabS.nil (hT (T.cd_law, T.tb_law) (.head _))
    · rw [List.mem_singleton.mp hp]
      exact TabS.nil (hT (T.cd__law_case_right, T.tb__law_case_right) (.tail _ (.head _)))
theorem law_true {K : PySem.W.Frag} {mg : Str → Option Value} (T : Txt K mg) (hne : T.tb__law_case_right ≠ T.tb_law) (ns : List Int) : ∃ ρ' h', B_law T.tb_law T.tb__law_case_right ρ0 (hand0 (tabs66 T) ns) = .ok (.ret (.bl true)) ρ' h' := law_ev pp_cd hne ⟨Int.le_refl _, rfl⟩
end G66
open PySem PySem.W PyProof.Rows
set_option maxRecDepth 6300 in
set_option maxHeartbeats 8000000 in
theorem PySem.Challenge.cw_placesayings_k66_whole_codes_put_and_rea_holds : PySem.Challenge.rw_placesayings_k66_whole_codes_put_and_rea.Holds := by
  w_on; o_law; k_head; (case hw => w_witness2)
  k_fill
  refine LamX.walk_ofTs (n := 63) (k := 8) (CX := fun _ => C8.CX0) (x := "script") ?hn ?hn2 ?hdf ?hr (fun w h Y => PySem.W.km_in_of Y) ?F (fun _ _ _ _ _ z => z)
  case hn => rfl
  case hn2 => decide
  case hdf => rfl
  case hr => exact ⟨rfl, by decide, by decide⟩
  case F =>
    intro w mg fa h Y KX G hmg
    refine (fun z : ∃ T : G66.Txt _ mg, _ => let ⟨T, z⟩ := z; G66.law_at T hmg (G66.law_true T z.2.2.2.2.2.2.2) z) ?_
    refine' G66.all_mk KX G ?a_is_sized ?l_is_sized ?c_is_sized ?k_is_sized ?a_is_letters ?l_is_letters ?c_is_letters ?k_is_letters ?a_check_word ?l_check_word ?c_check_word ?k_check_word ?a_is_code ?l_is_code ?c_is_code ?k_is_code ?a_check_code ?l_check_code ?c_check_code ?k_check_code ?a_raw_image ?l_raw_image ?c_raw_image ?k_raw_image ?a_image ?l_image ?c_image ?k_image ?a_counts_back ?l_counts_back ?c_counts_back ?k_counts_back ?a_many_back ?l_many_back ?c_many_back ?k_many_back ?a_read_back ?l_read_back ?c_read_back ?k_read_back ?a_raw_sure ?l_raw_sure ?c_raw_sure ?k_raw_sure ?a_sure_told ?l_sure_told ?c_sure_told ?k_sure_told ?a_is_sure_told ?l_is_sure_told ?c_is_sure_told ?k_is_sure_told ?a_joined_codes ?l_joined_codes ?c_joined_codes ?k_joined_codes ?a_begins_alike ?l_begins_alike ?c_begins_alike ?k_begins_alike ?a_told_at_once ?l_told_at_once ?c_told_at_once ?k_told_at_once ?a__law_hand ?l__law_hand ?c__law_hand ?k__law_hand ?a__law_draw ?l__law_draw ?c__law_draw ?k__law_draw ?a__law_any ?l__law_any ?c__law_any ?k__law_any ?a__law_is ?l__law_is ?c__law_is ?k__law_is ?a__law_word ?l__law_word ?c__law_word ?k__law_word ?a__law_code ?l__law_code ?c__law_code ?k__law_code ?a__law_image ?l__law_image ?c__law_image ?k__law_image ?a__law_backs ?l__law_backs ?c__law_backs ?k__law_backs ?a__law_is_two ?l__law_is_two ?c__law_is_two ?k__law_is_two ?a__law_sure_right ?l__law_sure_right ?c__law_sure_right ?k__law_sure_right ?a__law_case_right ?l__law_case_right ?c__law_case_right ?k__law_case_right ?o__law_case_right ?v__law_case_right ?n__law_case_right ?d__law_case_right ?t__law_case_right ?a_law ?l_law ?c_law ?k_law ?o_law ?v_law ?n_law ?d_law ?t_law ?ne__law_case_right_law ?b_ValueError ?b_abs ?b_all ?b_bool ?b_int ?b_isinstance ?b_len ?b_list ?b_max ?b_min ?b_range ?b_sorted ?b_str ?b_tuple ?b_zip ?q_LETTERS ?q_MOST_PUT ?q_MOST_READ ?q_MOST_WORD ?q_SURE ?q_TWO ?e0_NoCode ?e0_NoWord ?e0_SayError ?e2_NoCode ?e3_NoCode ?e4_NoCode ?e1_NoCode ?e5_NoCode ?e6_NoCode ?e7_NoCode ?e8_NoCode ?e9_NoCode_NoCode ?e9_NoCode_NoWord ?e2_NoWord ?e3_NoWord ?e4_NoWord ?e1_NoWord ?e5_NoWord ?e6_NoWord ?e7_NoWord ?e8_NoWord ?e9_NoWord_NoCode ?e9_NoWord_NoWord ?e2_SayError ?e3_SayError ?e4_SayError
    (case a_is_sized => k_is)
    (case l_is_sized => k_is)
    (case c_is_sized => k_is)
    (case k_is_sized => k_is)
    (case a_is_letters => k_is)
    (case l_is_letters => k_is)
    (case c_is_letters => k_is)
    (case k_is_letters => k_is)
    (case a_check_word => k_is)
    (case l_check_word => k_is)
    (case c_check_word => k_is)
    (case k_check_word => k_is)
    (case a_is_code => k_is)
    (case l_is_code => k_is)
    (case c_is_code => k_is)
    (case k_is_code => k_is)
    (case a_check_code => k_is)
    (case l_check_code => k_is)
    (case c_check_code => k_is)
    (case k_check_code => k_is)
    (case a_raw_image => k_is)
    (case l_raw_image => k_is)
    (case c_raw_image => k_is)
    (case k_raw_image => k_is)
    (case a_image => k_is)
    (case l_image => k_is)
    (case c_image => k_is)
    (case k_image => k_is)
    (case a_counts_back => k_is)
    (case l_counts_back => k_is)
    (case c_counts_back => k_is)
    (case k_counts_back => k_is)
    (case a_many_back => k_is)
    (case l_many_back => k_is)
    (case c_many_back => k_is)
    (case k_many_back => k_is)
    (case a_read_back => k_is)
    (case l_read_back => k_is)
    (case c_read_back => k_is)
    (case k_read_back => k_is)
    (case a_raw_sure => k_is)
    (case l_raw_sure => k_is)
    (case c_raw_sure => k_is)
    (case k_raw_sure => k_is)
    (case a_sure_told => k_is)
    (case l_sure_told => k_is)
    (case c_sure_told => k_is)
    (case k_sure_told => k_is)
    (case a_is_sure_told => k_is)
    (case l_is_sure_told => k_is)
    (case c_is_sure_told => k_is)
    (case k_is_sure_told => k_is)
    (case a_joined_codes => k_is)
    (case l_joined_codes => k_is)
    (case c_joined_codes => k_is)
    (case k_joined_codes => k_is)
    (case a_begins_alike => k_is)
    (case l_begins_alike => k_is)
    (case c_begins_alike => k_is)
    (case k_begins_alike => k_is)
    (case a_told_at_once => k_is)
    (case l_told_at_once => k_is)
    (case c_told_at_once => k_is)
    (case k_told_at_once => k_is)
    (case a__law_hand => k_is)
    (case l__law_hand => k_is)
    (case c__law_hand => k_is)
    (case k__law_hand => k_is)
    (case a__law_draw => k_is)
    (case l__law_draw => k_is)
    (case c__law_draw => k_is)
    (case k__law_draw => k_is)
    (case a__law_any => k_is)
    (case l__law_any => k_is)
    (case c__law_any => k_is)
    (case k__law_any => k_is)
    (case a__law_is => k_is)
    (case l__law_is => k_is)
    (case c__law_is => k_is)
    (case k__law_is => k_is)
    (case a__law_word => k_is)
    (case l__law_word => k_is)
    (case c__law_word => k_is)
    (case k__law_word => k_is)
    (case a__law_code => k_is)
    (case l__law_code => k_is)
    (case c__law_code => k_is)
    (case k__law_code => k_is)
    (case a__law_image => k_is)
    (case l__law_image => k_is)
    (case c__law_image => k_is)
    (case k__law_image => k_is)
    (case a__law_backs => k_is)
    (case l__law_backs => k_is)
    (case c__law_backs => k_is)
    (case k__law_backs => k_is)
    (case a__law_is_two => k_is)
    (case l__law_is_two => k_is)
    (case c__law_is_two => k_is)
    (case k__law_is_two => k_is)
    (case a__law_sure_right => k_is)
    (case l__law_sure_right => k_is)
    (case c__law_sure_right => k_is)
    (case k__law_sure_right => k_is)
    (case a__law_case_right => k_is)
    (case l__law_case_right => k_is)
    (case c__law_case_right => k_is)
    (case k__law_case_right => k_is)
    (case o__law_case_right => k_is)
    (case v__law_case_right => exact ⟨_, _, _, _, _, _, _, rfl, rfl, rfl, rfl, rfl, rfl⟩)
    (case n__law_case_right => first | rfl | k_is)
    (case d__law_case_right => decide)
    (case t__law_case_right => exact PySem.W.km_tabs_of Y _ (by decide))
    (case a_law => k_is)
    (case l_law => k_is)
    (case c_law => k_is)
    (case k_law => k_is)
    (case o_law => k_is)
    (case v_law => exact ⟨_, _, _, _, _, _, _, rfl, rfl, rfl, rfl, rfl, rfl⟩)
    (case n_law => first | rfl | k_is)
    (case d_law => decide)
    (case t_law => exact PySem.W.km_tabs_of Y _ (by decide))
    (case ne__law_case_right_law => decide)
    (case b_ValueError => k_is)
    (case b_abs => k_is)
    (case b_all => k_is)
    (case b_bool => k_is)
    (case b_int => k_is)
    (case b_isinstance => k_is)
    (case b_len => k_is)
    (case b_list => k_is)
    (case b_max => k_is)
    (case b_min => k_is)
    (case b_range => k_is)
    (case b_sorted => k_is)
    (case b_str => k_is)
    (case b_tuple => k_is)
    (case b_zip => k_is)
    (case q_LETTERS => k_is)
    (case q_MOST_PUT => k_is)
    (case q_MOST_READ => k_is)
    (case q_MOST_WORD => k_is)
    (case q_SURE => k_is)
    (case q_TWO => k_is)
    (case e0_NoCode => k_is)
    (case e0_NoWord => k_is)
    (case e0_SayError => k_is)
    (case e2_NoCode => k_is)
    (case e3_NoCode => k_is)
    (case e4_NoCode => k_is)
    (case e1_NoCode => k_is)
    (case e5_NoCode => k_exc)
    (case e6_NoCode => exact ⟨by k_is, by k_is, by k_is, by k_is, by k_is, by k_is, by k_is, by k_is⟩)
    (case e7_NoCode => k_is)
    (case e8_NoCode => first | k_is | rfl)
    (case e9_NoCode_NoCode => first | k_is | rfl)
    (case e9_NoCode_NoWord => first | k_is | rfl)
    (case e2_NoWord => k_is)
    (case e3_NoWord => k_is)
    (case e4_NoWord => k_is)
    (case e1_NoWord => k_is)
    (case e5_NoWord => k_exc)
    (case e6_NoWord => exact ⟨by k_is, by k_is, by k_is, by k_is, by k_is, by k_is, by k_is, by k_is⟩)
    (case e7_NoWord => k_is)
    (case e8_NoWord => first | k_is | rfl)
    (case e9_NoWord_NoCode => first | k_is | rfl)
    (case e9_NoWord_NoWord => first | k_is | rfl)
    (case e2_SayError => k_is)
    (case e3_SayError => k_is)
    (case e4_SayError => k_is)
