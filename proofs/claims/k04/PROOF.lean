import PyProof.Rows.All
import Wide.All
import OpenK.AllK
import Wide.FinOn
import HandS.ForMost
import HandS.Wide
import HandS.WideBits
import HandS.TupAny
import HandS.CallSlots
import HandS.ExcOwn
import HandS.WordsExc
import HandS.ExcInit
import HandS.Property
import PyProof.ReprRoads
import HandS.IsInst
import HandS.Text
import PyProof.TwoTypes
import KE.KOpsOwn
import HandS.SlotsOwn
import HandS.Set
import HandS.Strs
import HandS.TupSets
import PyProof.Rows.SortShellAny
import HandS.Style
import OpenK.KMeth
import HandS.EndBits
import HandS.Exc
import HandS.ExcField
import HandS.ExcIs
import KE.KExcIs
import HandS.OwnEq
import HandS.DictEq
import PyProof.NeKinds
import PyProof.InstNe
import HandS.TryOnly
import PyProof.EqKinds
import KE.GoesMore
import PyProof.EnumMake
import PySem.Challenge.RW_elderruns_k04_values_built_unlike
set_option Elab.async false
set_option linter.all false
set_option maxRecDepth 100000
set_option maxHeartbeats 8000000
/-! DL: data without addresses over the hand layer. -/
namespace DL
open PySem L2
/-! ### data -/
inductive D where
  | non | bl (b : Bool) | int (i : Int) | str (x : Str) | ty (n : String)
  | lst (xs : List D) | tup (xs : List D)
  | dic (kvs : List (Key × D))
  | ins (C : Addr) (fs : List (Str × D))
  | exc (a dx C : Addr) (v : D)
  | mem (p : Addr) (d : D)
/-- what is known of a frozen address: an object that never changes, or a store of a kind told by data -/
inductive FO where
  | hard (o : HO) | soft (d : D)
abbrev Fz := Addr → Option FO
def Le (F F' : Fz) : Prop := ∀ a o, F a = some o → F' a = some o
theorem Le.refl {F : Fz} : Le F F := fun _ _ h => h
theorem Le.trans {F G K : Fz} (h : Le F G) (k : Le G K) : Le F K := fun a o e => k a o (h a o e)
mutual
inductive Rep (F : Fz) : V → D → Prop
  | non : Rep F .non .non
  | bl (b : Bool) : Rep F (.bl b) (.bl b)
  | int (i : Int) : Rep F (.int i) (.int i)
  | str (x : Str) : Rep F (.str x) (.str x)
  | ty (n : String) : Rep F (.ty n) (.ty n)
  | lst {p : Addr} {vs : List V} {ds : List D} : F p = some (.hard (.lst vs)) → Reps F vs ds → Rep F (.ref p) (.lst ds)
  | tup {p : Addr} {vs : List V} {ds : List D} : F p = some (.hard (.tup vs)) → Reps F vs ds → Rep F (.ref p) (.tup ds)
  | dic {p : Addr} {vs : List (Key × V)} {ds : List (Key × D)} : F p = some (.hard (.dK vs)) → RepK F vs ds → Rep F (.ref p) (.dic ds)
  | ins {p C dx : Addr} {vs : List (Str × V)} {ds : List (Str × D)} : F p = some (.hard (.ins C dx vs)) → RepF F vs ds → Rep F (.ref p) (.ins C ds)
  | exc {a dx C : Addr} {v : V} {d : D} : F dx = some (.hard (.xd [("value", v)])) → Rep F v d → Rep F (.ref a) (.exc a dx C d)
  | mem {p : Addr} {d : D} : F p = some (.soft d) → Rep F (.ref p) (.mem p d)
inductive Reps (F : Fz) : List V → List D → Prop
  | nil : Reps F [] []
  | cons {v : V} {d : D} {vs : List V} {ds : List D} : Rep F v d → Reps F vs ds → Reps F (v :: vs) (d :: ds)
inductive RepK (F : Fz) : List (Key × V) → List (Key × D) → Prop
  | nil : RepK F [] []
  | cons {k : Key} {v : V} {d : D} {vs : List (Key × V)} {ds : List (Key × D)} : Rep F v d → RepK F vs ds → RepK F ((k, v) :: vs) ((k, d) :: ds)
inductive RepF (F : Fz) : List (Str × V) → List (Str × D) → Prop
  | nil : RepF F [] []
  | cons {k : Str} {v : V} {d : D} {vs : List (Str × V)} {ds : List (Str × D)} : Rep F v d → RepF F vs ds → RepF F ((k, v) :: vs) ((k, d) :: ds)
end
mutual
theorem Rep.mono {F G : Fz} (l : Le F G) : ∀ {v : V} {d : D}, Rep F v d → Rep G v d
  | _, _, .non => .non
  | _, _, .bl b => .bl b
  | _, _, .int i => .int i
  | _, _, .str x => .str x
  | _, _, .ty n => .ty n
  | _, _, .lst h r => .lst (l _ _ h) (Reps.mono l r)
  | _, _, .tup h r => .tup (l _ _ h) (Reps.mono l r)
  | _, _, .dic h r => .dic (l _ _ h) (RepK.mono l r)
  | _, _, .ins h r => .ins (l _ _ h) (RepF.mono l r)
  | _, _, .exc h r => .exc (l _ _ h) (Rep.mono l r)
  | _, _, .mem h => .mem (l _ _ h)
theorem Reps.mono {F G : Fz} (l : Le F G) : ∀ {v : List V} {d : List D}, Reps F v d → Reps G v d
  | _, _, .nil => .nil
  | _, _, .cons h r => .cons (Rep.mono l h) (Reps.mono l r)
theorem RepK.mono {F G : Fz} (l : Le F G) : ∀ {v : List (Key × V)} {d : List (Key × D)}, RepK F v d → RepK G v d
  | _, _, .nil => .nil
  | _, _, .cons h r => .cons (Rep.mono l h) (RepK.mono l r)
theorem RepF.mono {F G : Fz} (l : Le F G) : ∀ {v : List (Str × V)} {d : List (Str × D)}, RepF F v d → RepF G v d
  | _, _, .nil => .nil
  | _, _, .cons h r => .cons (Rep.mono l h) (RepF.mono l r)
end
theorem Reps.length {F : Fz} : ∀ {vs : List V} {ds : List D}, Reps F vs ds → vs.length = ds.length
  | _, _, .nil => rfl
  | _, _, .cons _ r => congrArg (· + 1) r.length
theorem Reps.append {F : Fz} : ∀ {vs ws : List V} {ds es : List D}, Reps F vs ds → Reps F ws es → Reps F (vs ++ ws) (ds ++ es)
  | _, _, _, _, .nil, s => s
  | _, _, _, _, .cons h r, s => .cons h (r.append s)
theorem Reps.get {F : Fz} : ∀ {vs : List V} {ds : List D} {i : Nat} {d : D}, Reps F vs ds → ds[i]? = some d → ∃ v, vs[i]? = some v ∧ Rep F v d
  | _, _, _, _, .nil, e => by simp at e
  | _, _, 0, _, .cons h _, e => by simp at e; subst e; exact ⟨_, rfl, h⟩
  | _, _, i + 1, d, .cons _ r, e => by
    obtain ⟨v, h1, h2⟩ := r.get (i := i) (d := d) (by simpa using e)
    exact ⟨v, by simpa using h1, h2⟩
theorem Reps.get' {F : Fz} : ∀ {vs : List V} {ds : List D} {i : Nat} {v : V}, Reps F vs ds → vs[i]? = some v → ∃ d, ds[i]? = some d ∧ Rep F v d
  | _, _, _, _, .nil, e => by simp at e
  | _, _, 0, _, .cons h _, e => by simp at e; subst e; exact ⟨_, rfl, h⟩
  | _, _, i + 1, v, .cons _ r, e => by
    obtain ⟨d, h1, h2⟩ := r.get' (i := i) (v := v) (by simpa using e)
    exact ⟨d, by simpa using h1, h2⟩
theorem Reps.set {F : Fz} {v : V} {d : D} (h : Rep F v d) : ∀ {vs : List V} {ds : List D} (i : Nat), Reps F vs ds → Reps F (vs.set i v) (ds.set i d)
  | _, _, _, .nil => .nil
  | _, _, 0, .cons _ r => .cons h r
  | _, _, i + 1, .cons q r => .cons q (Reps.set h i r)
theorem Reps.take {F : Fz} : ∀ {vs : List V} {ds : List D} (n : Nat), Reps F vs ds → Reps F (vs.take n) (ds.take n)
  | _, _, 0, _ => .nil
  | _, _, _ + 1, .nil => .nil
  | _, _, n + 1, .cons h r => .cons h (r.take n)
theorem Reps.drop {F : Fz} : ∀ {vs : List V} {ds : List D} (n : Nat), Reps F vs ds → Reps F (vs.drop n) (ds.drop n)
  | _, _, 0, r => r
  | _, _, _ + 1, .nil => .nil
  | _, _, n + 1, .cons _ r => r.drop n
theorem RepF.lookup {F : Fz} {f : Str} : ∀ {vs : List (Str × V)} {ds : List (Str × D)} {d : D}, RepF F vs ds → ds.lookup f = some d → ∃ v, vs.lookup f = some v ∧ Rep F v d
  | _, _, _, .nil, e => by simp at e
  | _, _, d, .cons (k := k) h r, e => by
    rw [List.lookup_cons] at e ⊢
    cases hb : f == k with
    | true =>
      rw [hb] at e
      cases e
      exact ⟨_, rfl, h⟩
    | false =>
      rw [hb] at e
      exact r.lookup e
theorem RepF.lookup_none {F : Fz} {f : Str} : ∀ {vs : List (Str × V)} {ds : List (Str × D)}, RepF F vs ds → ds.lookup f = none → vs.lookup f = none
  | _, _, .nil, _ => rfl
  | _, _, .cons (k := k) h r, e => by
    rw [List.lookup_cons] at e ⊢
    cases hb : f == k with
    | true => rw [hb] at e; cases e
    | false => rw [hb] at e; exact r.lookup_none e
theorem RepF.length {F : Fz} : ∀ {vs : List (Str × V)} {ds : List (Str × D)}, RepF F vs ds → vs.length = ds.length
  | _, _, .nil => rfl
  | _, _, .cons _ r => congrArg (· + 1) r.length
theorem RepK.length {F : Fz} : ∀ {vs : List (Key × V)} {ds : List (Key × D)}, RepK F vs ds → vs.length = ds.length
  | _, _, .nil => rfl
  | _, _, .cons _ r => congrArg (· + 1) r.length
def putD (f : Str) (d : D) : List (Str × D) → List (Str × D)
  | [] => [(f, d)]
  | (g, x) :: r => if g = f then (f, d) :: r else (g, x) :: putD f d r
theorem RepF.put {F : Fz} {f : Str} {v : V} {d : D} (h : Rep F v d) : ∀ {vs : List (Str × V)} {ds : List (Str × D)}, RepF F vs ds → RepF F (putF f v vs) (putD f d ds)
  | _, _, .nil => .cons h .nil
  | _, _, .cons (k := k) q r => by
    unfold putF putD
    by_cases e : k = f
    · subst e
      rw [if_pos rfl, if_pos rfl]
      exact .cons h r
    · rw [if_neg e, if_neg e]
      exact .cons q (RepF.put h r)
/-! ### environments -/
inductive DV where
  | fz (d : D) | ow (d : D) | bw (d : D)
def DV.d : DV → D
  | .fz d => d | .ow d => d | .bw d => d
def DV.owned : DV → Bool
  | .fz _ => false | .ow _ => true | .bw _ => true
abbrev DEnv := List (Option DV)
/-- what a read names: data, or the slot where it stands -/
inductive Rf where
  | val (d : D) | sl (i : Nat)
def slotD : Option (Option DV) → Option D
  | some (some dv) => some dv.d
  | _ => none
def Rf.get (ρ : DEnv) : Rf → Option D
  | .val d => some d
  | .sl i => slotD ρ[i]?
theorem slotD_some {o : Option (Option DV)} {d : D} (h : slotD o = some d) : ∃ dv, o = some (some dv) ∧ dv.d = d := by
  match o, h with
  | some (some dv), h => exact ⟨dv, rfl, Option.some.inj h⟩
def Own (F : Fz) (H : Hp) (p : Addr) : D → Prop
  | .lst ds => ∃ vs, H p = some (.lst vs) ∧ Reps F vs ds
  | .dic ds => ∃ vs, H p = some (.dK vs) ∧ RepK F vs ds
  | .ins C ds => ∃ dx vs, H p = some (.ins C dx vs) ∧ RepF F vs ds
  | _ => False
theorem Own.mono {F G : Fz} {H : Hp} {p : Addr} (l : Le F G) : ∀ {d : D}, Own F H p d → Own G H p d
  | .lst _, ⟨vs, h, r⟩ => ⟨vs, h, r.mono l⟩
  | .dic _, ⟨vs, h, r⟩ => ⟨vs, h, r.mono l⟩
  | .ins _ _, ⟨dx, vs, h, r⟩ => ⟨dx, vs, h, r.mono l⟩
theorem Own.there {F : Fz} {H : Hp} {p : Addr} : ∀ {d : D}, Own F H p d → ∃ o, H p = some o
  | .lst _, ⟨_, h, _⟩ => ⟨_, h⟩
  | .dic _, ⟨_, h, _⟩ => ⟨_, h⟩
  | .ins _ _, ⟨_, _, h, _⟩ => ⟨_, h⟩
theorem Own.heap {F : Fz} {H H' : Hp} {p : Addr} (e : H' p = H p) : ∀ {d : D}, Own F H p d → Own F H' p d
  | .lst _, ⟨vs, h, r⟩ => ⟨vs, e.trans h, r⟩
  | .dic _, ⟨vs, h, r⟩ => ⟨vs, e.trans h, r⟩
  | .ins _ _, ⟨dx, vs, h, r⟩ => ⟨dx, vs, e.trans h, r⟩
def Den (F : Fz) (H : Hp) (v : V) : DV → Prop
  | .fz d => Rep F v d
  | .ow d => ∃ p, v = .ref p ∧ F p = none ∧ Own F H p d
  | .bw d => ∃ p, v = .ref p ∧ F p = none ∧ Own F H p d
/-- a store's contents (none in this text) -/
def Sft : D → Fz → HO → Prop := fun _ _ _ => False
theorem Sft.mono {d : D} {F G : Fz} {o : HO} (l : Le F G) (h : Sft d F o) : Sft d G o := h.elim
/-- how a frozen object stands: lists, tuples, dicts may be known objects -/
def Rx (H : Hp) (a : Addr) : HO → Prop
  | .lst xs => Rd H a (.lst xs)
  | .tup xs => Rd H a (.tup xs)
  | .dK xs => Rd H a (.dK xs)
  | .dT xs => Rd H a (.dT xs)
  | o => H a = some o
theorem Rx.of {H : Hp} {a : Addr} {o : HO} (h : H a = some o) : Rx H a o := by
  cases o <;> first | exact .inl h | exact h
theorem Rx.some {H : Hp} {a : Addr} {o : HO} (h : Rx H a o) : ∃ u, H a = some u := by
  cases o <;> first | exact ⟨_, h⟩ | (rcases h with h | ⟨_, h⟩ <;> exact ⟨_, h⟩)
theorem Rx.at_ {H H' : Hp} {a : Addr} {o : HO} (h : Rx H a o) (e : H' a = H a) : Rx H' a o := by
  cases o <;> first | exact (e.trans h) | (rcases h with h | ⟨ob, h⟩ <;> first | exact .inl (e.trans h) | exact .inr ⟨ob, e.trans h⟩)
def Sits (F : Fz) (H : Hp) : Prop := ∀ a fo, F a = some fo → match fo with
  | .hard o => Rx H a o
  | .soft d => ∃ o, H a = some o ∧ Sft d F o
def Soft (F : Fz) (a : Addr) : Prop := ∃ d, F a = some (.soft d)
structure Go (F : Fz) (H : Hp) (O : Addr → Prop) (F' : Fz) (H' : Hp) (O' : Addr → Prop) : Prop where
  le : Le F F'
  keep : ∀ a o, H a = some o → ¬ O a → ¬ Soft F a → H' a = some o
  fz : ∀ a fo, F' a = some fo → F a = some fo ∨ H a = none ∨ O a
  own : ∀ a, O' a → O a ∨ H a = none
  dom : ∀ a o, H a = some o → ∃ o', H' a = some o'
theorem Go.refl {F : Fz} {H : Hp} {O : Addr → Prop} : Go F H O F H O := ⟨.refl, fun _ _ h _ _ => h, fun _ _ h => .inl h, fun _ h => .inl h, fun _ o h => ⟨o, h⟩⟩
theorem Go.free {F F' : Fz} {H H' : Hp} {O O' : Addr → Prop} (g : Go F H O F' H' O') {a : Addr} (h : H' a = none) : H a = none := by
  cases e : H a with
  | none => rfl
  | some o =>
    obtain ⟨o', e'⟩ := g.dom a o e
    rw [h] at e'; cases e'
theorem Go.trans {F F1 F2 : Fz} {H H1 H2 : Hp} {O O1 O2 : Addr → Prop} (g : Go F H O F1 H1 O1) (k : Go F1 H1 O1 F2 H2 O2) : Go F H O F2 H2 O2 where
  le := g.le.trans k.le
  keep := fun a o h no ns => by
    refine k.keep a o (g.keep a o h no ns) (fun z => ?_) fun ⟨d, z⟩ => ?_
    · rcases g.own a z with z | z
      · exact no z
      · rw [h] at z; cases z
    · rcases g.fz a _ z with z | z | z
      · exact ns ⟨d, z⟩
      · rw [h] at z; cases z
      · exact no z
  fz := fun a fo h => by
    rcases k.fz a fo h with z | z | z
    · exact g.fz a fo z
    · exact .inr (.inl (g.free z))
    · rcases g.own a z with z | z
      · exact .inr (.inr z)
      · exact .inr (.inl z)
  own := fun a h => by
    rcases k.own a h with z | z
    · exact g.own a z
    · exact .inr (g.free z)
  dom := fun a o h => by
    obtain ⟨o', h'⟩ := g.dom a o h
    exact k.dom a o' h'
/-- the owned addresses may be told smaller behind -/
theorem Go.less {F F' : Fz} {H H' : Hp} {O O' O'' : Addr → Prop} (g : Go F H O F' H' O') (h : ∀ a, O'' a → O' a) : Go F H O F' H' O'' := ⟨g.le, g.keep, g.fz, fun a z => g.own a (h a z), g.dom⟩
def OwnsAt (σ : St) (ρ : DEnv) (i : Nat) (p : Addr) : Prop := σ[i]? = some (some (.ref p)) ∧ ∃ dv, ρ[i]? = some (some dv) ∧ dv.owned = true
def Owns (σ : St) (ρ : DEnv) (p : Addr) : Prop := ∃ i, OwnsAt σ ρ i p
/-- the entry -/
structure En where
  F : Fz
  H : Hp
  O : Addr → Prop
  s : St
  B : Nat → Prop
structure SR (En : En) (F : Fz) (H : Hp) (σ : St) (ρ : DEnv) : Prop where
  sits : Sits F H
  len : σ.length = ρ.length
  at_ : ∀ (i : Nat) (dv : DV), ρ[i]? = some (some dv) → ∃ v, σ[i]? = some (some v) ∧ Den F H v dv
  sep : ∀ (i j : Nat) (p : Addr), OwnsAt σ ρ i p → OwnsAt σ ρ j p → i = j
  pin : ∀ (i : Nat) (d : D), ρ[i]? = some (some (.bw d)) → En.s[i]? = σ[i]? ∧ En.B i
  go : Go En.F En.H En.O F H (Owns σ ρ)
def View (F : Fz) (H : Hp) (v : V) (d : D) : Prop := Rep F v d ∨ ∃ p, v = .ref p ∧ F p = none ∧ Own F H p d
def VDen (σ : St) (F : Fz) (v : V) : Rf → Prop
  | .val d => Rep F v d
  | .sl i => σ[i]? = some (some v)
theorem VDen.mono {σ : St} {F G : Fz} {v : V} (l : Le F G) : ∀ {r : Rf}, VDen σ F v r → VDen σ G v r
  | .val _, h => Rep.mono l h
  | .sl _, h => h
theorem Den.view {F : Fz} {H : Hp} {v : V} : ∀ {dv : DV}, Den F H v dv → View F H v dv.d
  | .fz _, h => .inl h
  | .ow _, h => .inr h
  | .bw _, h => .inr h
theorem Rf.get_sl {ρ : DEnv} {i : Nat} {d : D} (h : Rf.get ρ (.sl i) = some d) : ∃ dv, ρ[i]? = some (some dv) ∧ dv.d = d := slotD_some h
section
variable {E : En} {F F' : Fz} {H H' : Hp} {σ : St} {ρ ρ' : DEnv} {v : V} {d : D} {r : Rf} {p : Addr} {i : Nat}
theorem SR.view (S : SR E F H σ ρ) (h : VDen σ F v r) (g : r.get ρ = some d) : View F H v d := by
  cases r with
  | val e =>
    have : e = d := Option.some.inj g
    subst this
    exact .inl h
  | sl i =>
    obtain ⟨dv, e, rfl⟩ := Rf.get_sl g
    obtain ⟨w, hw, hd⟩ := S.at_ i dv e
    have h' : σ[i]? = some (some v) := h
    rw [hw] at h'
    cases h'
    exact hd.view
theorem SR.nil (S : SR E F H σ ρ) (h : H p = none) : F p = none := by
  cases e : F p with
  | none => rfl
  | some fo =>
    have z := S.sits p fo e
    cases fo with
    | hard o =>
      obtain ⟨u, z'⟩ := (show Rx H p o from z).some
      rw [h] at z'; cases z'
    | soft d =>
      obtain ⟨o, z', _⟩ : ∃ o, H p = some o ∧ Sft d F o := z
      rw [h] at z'; cases z'
theorem SR.hard (S : SR E F H σ ρ) {o : HO} (h : F p = some (.hard o)) : Rx H p o := S.sits p _ h
theorem SR.owned (S : SR E F H σ ρ) (h : Owns σ ρ p) : F p = none ∧ ∃ o, H p = some o := by
  obtain ⟨i, e, dv, hd, ho⟩ := h
  obtain ⟨w, hw, q⟩ := S.at_ i dv hd
  rw [e] at hw
  cases hw
  cases dv with
  | fz d => cases ho
  | ow d =>
    obtain ⟨q1, q2, q3, q4⟩ := q
    cases q2
    exact ⟨q3, q4.there⟩
  | bw d =>
    obtain ⟨q1, q2, q3, q4⟩ := q
    cases q2
    exact ⟨q3, q4.there⟩
theorem SR.fresh (S : SR E F H σ ρ) (h : H p = none) : ¬ Owns σ ρ p := fun z => by
  obtain ⟨_, o, e⟩ := S.owned z
  rw [h] at e; cases e
/-- entered anew -/
def anew (F : Fz) (H : Hp) (σ : St) (ρ : DEnv) : En := ⟨F, H, Owns σ ρ, σ, fun i => ∃ d, ρ[i]? = some (some (.bw d))⟩
theorem SR.again (S : SR E F H σ ρ) : SR (anew F H σ ρ) F H σ ρ := ⟨S.sits, S.len, S.at_, S.sep, fun _ d e => ⟨rfl, d, e⟩, .refl⟩
theorem SR.back (S : SR E F H σ ρ) {σ' : St} (S' : SR (anew F H σ ρ) F' H' σ' ρ') : SR E F' H' σ' ρ' :=
  ⟨S'.sits, S'.len, S'.at_, S'.sep, fun i d e => by
    obtain ⟨e1, d', e2⟩ := S'.pin i d e
    obtain ⟨e3, e4⟩ := S.pin i d' e2
    exact ⟨e3.trans e1, e4⟩, S.go.trans S'.go⟩
end
def updF (F : Fz) (p : Addr) (o : FO) : Fz := fun b => if b = p then some o else F b
theorem updF_same {F : Fz} {p : Addr} {o : FO} : updF F p o p = some o := by unfold updF; rw [if_pos rfl]
theorem updF_ne {F : Fz} {p b : Addr} {o : FO} (h : b ≠ p) : updF F p o b = F b := by unfold updF; rw [if_neg h]
theorem Le.updF {F : Fz} {p : Addr} {o : FO} (h : F p = none) : Le F (updF F p o) := fun a fo e => by
  have : a ≠ p := fun z => by subst z; rw [h] at e; cases e
  rw [updF_ne this]; exact e
end DL
/-! DL2: steps of the state; judgements. -/
namespace DL
open PySem L2
section
variable {E : En} {F F' : Fz} {H H' : Hp} {σ : St} {ρ ρ' : DEnv} {v : V} {d : D} {r : Rf} {p : Addr} {i : Nat}
theorem OwnsAt.set_ne {j : Nat} {x : Option V} {y : Option DV} (h : j ≠ i) : OwnsAt (σ.set i x) (ρ.set i y) j p ↔ OwnsAt σ ρ j p := by
  unfold OwnsAt
  rw [List.getElem?_set_ne (Ne.symm h), List.getElem?_set_ne (Ne.symm h)]
theorem OwnsAt.set_ne' {j : Nat} {y : Option DV} (h : j ≠ i) : OwnsAt σ (ρ.set i y) j p ↔ OwnsAt σ ρ j p := by
  unfold OwnsAt
  rw [List.getElem?_set_ne (Ne.symm h)]
/-- a new object that nobody holds -/
theorem SR.lay (S : SR E F H σ ρ) {o : HO} (h : H p = none) : SR E F (upd H p o) σ ρ where
  sits := fun a fo e => by
    have z := S.sits a fo e
    have ne : a ≠ p := fun q => by
      subst q
      rw [S.nil h] at e; cases e
    cases fo with
    | hard o => exact Rx.at_ (show Rx H a o from z) (upd_ne ne)
    | soft d => obtain ⟨o', z1, z2⟩ : ∃ o, H a = some o ∧ Sft d F o := z; exact ⟨o', (upd_ne ne).trans z1, z2⟩
  len := S.len
  at_ := fun i dv e => by
    obtain ⟨w, h1, h2⟩ := S.at_ i dv e
    refine ⟨w, h1, ?_⟩
    have go : ∀ {q : Addr} {d : D}, Own F H q d → Own F (upd H p o) q d := fun {q d} z => by
      obtain ⟨o', e'⟩ := z.there
      exact z.heap (upd_ne (ne_of_none e' h))
    cases dv with
    | fz d => exact h2
    | ow d => obtain ⟨q, a, b, c⟩ := h2; exact ⟨q, a, b, go c⟩
    | bw d => obtain ⟨q, a, b, c⟩ := h2; exact ⟨q, a, b, go c⟩
  sep := S.sep
  pin := S.pin
  go := S.go.trans ⟨.refl, fun a o' e _ _ => by rw [upd_ne (ne_of_none e h)]; exact e, fun _ _ e => .inl e, fun _ e => .inl e, fun a o' e => ⟨o', by rw [upd_ne (ne_of_none e h)]; exact e⟩⟩
/-- an object that nobody holds is frozen -/
theorem SR.ice (S : SR E F H σ ρ) {o : HO} (h : H p = some o) (hF : F p = none) (no : ¬ Owns σ ρ p) (en : E.H p = none ∨ E.O p) : SR E (updF F p (.hard o)) H σ ρ where
  sits := fun a fo e => by
    by_cases q : a = p
    · subst q
      rw [updF_same] at e
      cases e
      exact Rx.of h
    · rw [updF_ne q] at e
      have z := S.sits a fo e
      cases fo with
      | hard o => exact z
      | soft d => obtain ⟨o', z1, z2⟩ : ∃ o, H a = some o ∧ Sft d F o := z; exact ⟨o', z1, z2.mono (.updF hF)⟩
  len := S.len
  at_ := fun i dv e => by
    obtain ⟨w, h1, h2⟩ := S.at_ i dv e
    refine ⟨w, h1, ?_⟩
    have ne : ∀ {q : Addr}, w = .ref q → dv.owned = true → q ≠ p := fun {q} e1 e2 e3 => no ⟨i, by rw [h1, e1, e3], dv, e, e2⟩
    cases dv with
    | fz d => exact Rep.mono (.updF hF) h2
    | ow d => obtain ⟨q, a, b, c⟩ := h2; exact ⟨q, a, by rw [updF_ne (ne a rfl)]; exact b, c.mono (.updF hF)⟩
    | bw d => obtain ⟨q, a, b, c⟩ := h2; exact ⟨q, a, by rw [updF_ne (ne a rfl)]; exact b, c.mono (.updF hF)⟩
  sep := S.sep
  pin := S.pin
  go := ⟨S.go.le.trans (.updF hF), S.go.keep, fun a fo e => by
      by_cases q : a = p
      · subst q
        exact .inr en
      · rw [updF_ne q] at e
        exact S.go.fz a fo e, S.go.own, S.go.dom⟩
theorem SR.layF (S : SR E F H σ ρ) {o : HO} (h : H p = none) : SR E (updF F p (.hard o)) (upd H p o) σ ρ ∧ Le F (updF F p (.hard o)) := by
  have S1 := S.lay (o := o) h
  refine ⟨S1.ice upd_same (S.nil h) (S.fresh h) (.inl (S.go.free h)), .updF (S.nil h)⟩
/-- a slot is told empty -/
theorem SR.drop (S : SR E F H σ ρ) (i : Nat) : SR E F H σ (ρ.set i none) := by
  have key : ∀ j dv, (ρ.set i none)[j]? = some (some dv) → j ≠ i ∧ ρ[j]? = some (some dv) := fun j dv e => by
    by_cases q : j = i
    · subst q
      by_cases hl : j < ρ.length
      · rw [List.getElem?_set_self hl] at e; cases e
      · rw [List.getElem?_eq_none (by simpa using hl)] at e; cases e
    · rw [List.getElem?_set_ne (Ne.symm q)] at e
      exact ⟨q, e⟩
  have own : ∀ j p, OwnsAt σ (ρ.set i none) j p → OwnsAt σ ρ j p := fun j p ⟨h1, dv, h2, h3⟩ => ⟨h1, dv, (key j dv h2).2, h3⟩
  exact ⟨S.sits, by rw [List.length_set]; exact S.len, fun j dv e => S.at_ j dv (key j dv e).2, fun j k p h1 h2 => S.sep j k p (own _ _ h1) (own _ _ h2), fun j d e => S.pin j d (key j _ e).2, S.go.less fun a ⟨j, h⟩ => ⟨j, own _ _ h⟩⟩
/-- a slot is filled -/
theorem SR.put (S : SR E F H σ ρ) {dv : DV} (hd : Den F H v dv) (nb : ∀ d, dv ≠ .bw d) (ow : dv.owned = true → ∀ p, v = .ref p → ¬ Owns σ (ρ.set i none) p ∧ (E.O p ∨ E.H p = none)) : SR E F H (σ.set i (some v)) (ρ.set i (some dv)) := by
  by_cases hl : i < ρ.length
  · have hs : i < σ.length := by rw [S.len]; exact hl
    have me : ∀ j p, OwnsAt (σ.set i (some v)) (ρ.set i (some dv)) j p → (j = i ∧ v = .ref p ∧ dv.owned = true) ∨ (j ≠ i ∧ OwnsAt σ (ρ.set i none) j p ∧ OwnsAt σ ρ j p) := fun j p h => by
      by_cases q : j = i
      · subst q
        obtain ⟨h1, dv', h2, h3⟩ := h
        rw [List.getElem?_set_self hs] at h1
        rw [List.getElem?_set_self hl] at h2
        cases h1
        cases h2
        exact .inl ⟨rfl, rfl, h3⟩
      · have h' := (OwnsAt.set_ne q).mp h
        exact .inr ⟨q, (OwnsAt.set_ne' q).mpr h', h'⟩
    refine ⟨S.sits, by rw [List.length_set, List.length_set]; exact S.len, fun j dv' e => ?_, fun j k p h1 h2 => ?_, fun j d e => ?_, ⟨S.go.le, S.go.keep, S.go.fz, fun a ⟨j, h⟩ => ?_, S.go.dom⟩⟩
    · by_cases q : j = i
      · subst q
        rw [List.getElem?_set_self hl] at e
        cases e
        exact ⟨v, List.getElem?_set_self hs, hd⟩
      · rw [List.getElem?_set_ne (Ne.symm q)] at e
        rw [List.getElem?_set_ne (Ne.symm q)]
        exact S.at_ j dv' e
    · rcases me j p h1 with ⟨e1, e2, e3⟩ | ⟨n1, o1, o1'⟩
      · rcases me k p h2 with ⟨f1, f2, f3⟩ | ⟨n2, o2, o2'⟩
        · rw [e1, f1]
        · exact absurd ⟨k, o2⟩ (ow e3 p e2).1
      · rcases me k p h2 with ⟨f1, f2, f3⟩ | ⟨n2, o2, o2'⟩
        · exact absurd ⟨j, o1⟩ (ow f3 p f2).1
        · exact S.sep j k p o1' o2'
    · by_cases q : j = i
      · subst q
        rw [List.getElem?_set_self hl] at e
        cases e
        exact absurd rfl (nb d)
      · rw [List.getElem?_set_ne (Ne.symm q)] at e
        rw [List.getElem?_set_ne (Ne.symm q)]
        exact S.pin j d e
    · rcases me j a h with ⟨e1, e2, e3⟩ | ⟨n1, o1, o1'⟩
      · exact (ow e3 a e2).2
      · exact S.go.own a ⟨j, o1'⟩
  · have e1 : ρ.set i (some dv) = ρ := List.set_eq_of_length_le (by omega)
    have e2 : σ.set i (some v) = σ := List.set_eq_of_length_le (by rw [S.len]; omega)
    rw [e1, e2]
    exact S
end
end DL
/-! DL3: escaping, new objects, judgements. -/
namespace DL
open PySem L2
def DV.re : DV → D → DV
  | .fz _, d => .fz d
  | .ow _, d => .ow d
  | .bw _, d => .bw d
section
variable {E : En} {F F' : Fz} {H H' : Hp} {σ : St} {ρ ρ' : DEnv} {v : V} {d : D} {r : Rf} {p : Addr} {i : Nat}
/-- what an owned slot holds has changed -/
theorem SR.change (S : SR E F H σ ρ) {dv : DV} {o : HO} (hs : σ[i]? = some (some (.ref p))) (hr : ρ[i]? = some (some dv)) (ho : dv.owned = true) (hd : Own F (upd H p o) p d) : SR E F (upd H p o) σ (ρ.set i (some (dv.re d))) := by
  have at0 : OwnsAt σ ρ i p := ⟨hs, dv, hr, ho⟩
  obtain ⟨hF, o0, hH⟩ := S.owned ⟨i, at0⟩
  have hl : i < ρ.length := (List.getElem?_eq_some_iff.mp hr).1
  have hre : (dv.re d).owned = true := by cases dv <;> first | rfl | exact ho
  have own : ∀ j q, OwnsAt σ (ρ.set i (some (dv.re d))) j q → OwnsAt σ ρ j q := fun j q h => by
    by_cases e : j = i
    · subst e; exact ⟨h.1, dv, hr, ho⟩
    · exact (OwnsAt.set_ne' e).mp h
  refine ⟨fun a fo e => ?_, by rw [List.length_set]; exact S.len, fun j dv' e => ?_, fun j k q h1 h2 => S.sep j k q (own _ _ h1) (own _ _ h2), fun j d' e => ?_, S.go.trans ⟨.refl, fun a o' e no _ => ?_, fun _ _ e => .inl e, fun a ⟨j, h⟩ => .inl ⟨j, own _ _ h⟩, fun a o' e => ?_⟩⟩
  · have z := S.sits a fo e
    have ne : a ≠ p := fun q => by subst q; rw [hF] at e; cases e
    cases fo with
    | hard o => exact Rx.at_ (show Rx H a o from z) (upd_ne ne)
    | soft d => obtain ⟨o', z1, z2⟩ : ∃ o, H a = some o ∧ Sft d F o := z; exact ⟨o', (upd_ne ne).trans z1, z2⟩
  · by_cases q : j = i
    · subst q
      rw [List.getElem?_set_self hl] at e
      cases e
      refine ⟨_, hs, ?_⟩
      cases dv with
      | fz _ => cases ho
      | ow _ => exact ⟨p, rfl, hF, hd⟩
      | bw _ => exact ⟨p, rfl, hF, hd⟩
    · rw [List.getElem?_set_ne (Ne.symm q)] at e
      obtain ⟨w, h1, h2⟩ := S.at_ j dv' e
      refine ⟨w, h1, ?_⟩
      have ne : ∀ {a : Addr}, w = .ref a → dv'.owned = true → a ≠ p := fun {a} e1 e2 e3 => q (S.sep j i p ⟨by rw [h1, e1, e3], dv', e, e2⟩ at0)
      cases dv' with
      | fz d => exact h2
      | ow d => obtain ⟨a, b, c, k⟩ := h2; exact ⟨a, b, c, k.heap (upd_ne (ne b rfl))⟩
      | bw d => obtain ⟨a, b, c, k⟩ := h2; exact ⟨a, b, c, k.heap (upd_ne (ne b rfl))⟩
  · by_cases q : j = i
    · subst q
      rw [List.getElem?_set_self hl] at e
      have e' : dv.re d = .bw d' := by simpa using e
      cases dv with
      | fz _ => cases ho
      | ow _ => cases e'
      | bw x => exact S.pin j x hr
    · rw [List.getElem?_set_ne (Ne.symm q)] at e
      exact S.pin j d' e
  · have ne : a ≠ p := fun q => no (q ▸ ⟨i, at0⟩)
    rw [upd_ne ne]; exact e
  · by_cases q : a = p
    · exact ⟨o, by rw [q]; exact upd_same⟩
    · exact ⟨o', by rw [upd_ne q]; exact e⟩
/-- a new object, as an expression leaves it: nobody holds it -/
structure NewAt (E : En) (F : Fz) (H : Hp) (σ : St) (ρ : DEnv) (p : Addr) (d : D) : Prop where
  fz : F p = none
  own : Own F H p d
  no : ¬ Owns σ ρ p
  en : E.H p = none
theorem Own.rep {F G : Fz} {H : Hp} {p : Addr} {o : HO} (h : H p = some o) (l : Le F G) (g : G p = some (.hard o)) : ∀ {d : D}, Own F H p d → Rep G (.ref p) d
  | .lst _, ⟨vs, e, r⟩ => by rw [h] at e; cases e; exact .lst g (r.mono l)
  | .dic _, ⟨vs, e, r⟩ => by rw [h] at e; cases e; exact .dic g (r.mono l)
  | .ins _ _, ⟨dx, vs, e, r⟩ => by rw [h] at e; cases e; exact .ins g (r.mono l)
theorem SR.freeze (S : SR E F H σ ρ) (N : NewAt E F H σ ρ p d) : ∃ F', Le F F' ∧ SR E F' H σ ρ ∧ Rep F' (.ref p) d := by
  obtain ⟨o, ho⟩ := N.own.there
  exact ⟨_, .updF N.fz, S.ice ho N.fz N.no (.inl N.en), N.own.rep ho (.updF N.fz) updF_same⟩
/-- what stands to be stored or handed on: an owned slot is frozen -/
def esc (ρ : DEnv) : Rf → Option (D × DEnv)
  | .val d => some (d, ρ)
  | .sl i => match ρ[i]? with
    | some (some (.fz d)) => some (d, ρ)
    | some (some (.ow d)) => some (d, ρ.set i (some (.fz d)))
    | _ => none
theorem SR.esc (S : SR E F H σ ρ) (h : VDen σ F v r) (e : esc ρ r = some (d, ρ')) : ∃ F', Le F F' ∧ SR E F' H σ ρ' ∧ Rep F' v d := by
  cases r with
  | val x =>
    have e' : (x, ρ) = (d, ρ') := Option.some.inj e
    cases e'
    exact ⟨F, .refl, S, h⟩
  | sl i =>
    have hv : σ[i]? = some (some v) := h
    unfold DL.esc at e
    cases q : ρ[i]? with
    | none => simp [q] at e
    | some x =>
      cases x with
      | none => simp [q] at e
      | some dv =>
        obtain ⟨w, h1, h2⟩ := S.at_ i dv q
        rw [hv] at h1
        cases h1
        cases dv with
        | bw _ => simp [q] at e
        | fz x =>
          simp [q] at e
          obtain ⟨rfl, rfl⟩ := e
          exact ⟨F, .refl, S, h2⟩
        | ow x =>
          simp [q] at e
          obtain ⟨rfl, rfl⟩ := e
          obtain ⟨p, rfl, hF, own⟩ := h2
          have S1 := S.drop i
          have at0 : OwnsAt σ ρ i p := ⟨hv, _, q, rfl⟩
          have no : ¬ Owns σ (ρ.set i none) p := fun ⟨j, hj1, dv, hj2, hj3⟩ => by
            by_cases ji : j = i
            · subst ji
              rw [List.getElem?_set_self (List.getElem?_eq_some_iff.mp q).1] at hj2
              cases hj2
            · rw [List.getElem?_set_ne (Ne.symm ji)] at hj2
              exact ji (S.sep j i p ⟨hj1, dv, hj2, hj3⟩ at0)
          obtain ⟨o, ho⟩ := own.there
          have en : E.H p = none ∨ E.O p := (S.go.own p ⟨i, at0⟩).symm
          have S2 := S1.ice ho hF no en
          have rp : Rep (updF F p (.hard o)) (.ref p) x := own.rep ho (.updF hF) updF_same
          have S3 := S2.put (i := i) (v := .ref p) (dv := .fz x) rp (fun _ z => by cases z) (fun z => by cases z)
          have e1 : σ.set i (some (.ref p)) = σ := by
            apply List.ext_getElem?
            intro k
            by_cases hk : k = i
            · subst hk; rw [List.getElem?_set_self (List.getElem?_eq_some_iff.mp hv).1, hv]
            · rw [List.getElem?_set_ne (Ne.symm hk)]
          rw [e1, List.set_set] at S3
          exact ⟨_, .updF hF, S3, rp⟩
/-! ### judgements -/
abbrev ME := DEnv → (Rf → DEnv → Prop) → Prop
abbrev MO := DEnv → (D → DEnv → Prop) → Prop
abbrev MT := DEnv → (Bool → DEnv → Prop) → Prop
abbrev MA := DEnv → (List Rf → DEnv → Prop) → Prop
def VDens (σ : St) (F : Fz) : List V → List Rf → Prop
  | [], [] => True
  | v :: vs, r :: rs => VDen σ F v r ∧ VDens σ F vs rs
  | _, _ => False
theorem VDens.mono {σ : St} {F G : Fz} (l : Le F G) : ∀ {vs : List V} {rs : List Rf}, VDens σ F vs rs → VDens σ G vs rs
  | [], [], _ => trivial
  | _ :: _, _ :: _, ⟨h, r⟩ => ⟨h.mono l, r.mono l⟩
def tL (E : En) (m : ME) : TE := fun σ H Q => ∃ F ρ P, SR E F H σ ρ ∧ m ρ P ∧ ∀ r ρ' v H' F', P r ρ' → SR E F' H' σ ρ' → Le F F' → VDen σ F' v r → Q v H'
def tLO (E : En) (m : MO) : TE := fun σ H Q => ∃ F ρ P, SR E F H σ ρ ∧ m ρ P ∧ ∀ d ρ' p H' F', P d ρ' → SR E F' H' σ ρ' → Le F F' → NewAt E F' H' σ ρ' p d → Q (.ref p) H'
def tLT (E : En) (m : MT) : TT := fun σ H Q => ∃ F ρ P, SR E F H σ ρ ∧ m ρ P ∧ ∀ b ρ' H' F', P b ρ' → SR E F' H' σ ρ' → Le F F' → Q b H'
def tLA (E : En) (m : MA) : TA := fun σ H Q => ∃ F ρ P, SR E F H σ ρ ∧ m ρ P ∧ ∀ rs ρ' vs H' F', P rs ρ' → SR E F' H' σ ρ' → Le F F' → VDens σ F' vs rs → Q vs H'
structure DEnds where
  nx : DEnv → Prop
  rt : D → DEnv → Prop
  ro : D → DEnv → Prop := fun _ _ => False
  bk : DEnv → Prop := fun _ => False
  ct : DEnv → Prop := fun _ => False
abbrev MS := DEnds → DEnv → Prop
/-- an owned object is handed back: a new one, or that of a slot -/
def Ret (E : En) (F : Fz) (H : Hp) (σ : St) (ρ : DEnv) (p : Addr) (d : D) : Prop := F p = none ∧ Own F H p d ∧ (E.H p = none ∨ ∃ i : Nat, σ[i]? = some (some (V.ref p)) ∧ ρ[i]? = some (some (DV.ow d)))
structure Fits (E : En) (F : Fz) (P : DEnds) (Q : Ends) : Prop where
  nx : ∀ ρ' σ' H' F', P.nx ρ' → SR E F' H' σ' ρ' → Le F F' → Q.nx σ' H'
  rt : ∀ d ρ' σ' v H' F', P.rt d ρ' → SR E F' H' σ' ρ' → Le F F' → Rep F' v d → Q.rt v H'
  ro : ∀ d ρ' σ' p H' F', P.ro d ρ' → SR E F' H' σ' ρ' → Le F F' → Ret E F' H' σ' ρ' p d → Q.rt (.ref p) H'
  bk : ∀ ρ' σ' H' F', P.bk ρ' → SR E F' H' σ' ρ' → Le F F' → Q.bk σ' H'
  ct : ∀ ρ' σ' H' F', P.ct ρ' → SR E F' H' σ' ρ' → Le F F' → Q.ct σ' H'
theorem Fits.le {P : DEnds} {Q : Ends} (f : Fits E F P Q) (l : Le F F') : Fits E F' P Q :=
  ⟨fun a b c d x y z => f.nx a b c d x y (l.trans z), fun a b c d e g x y z w => f.rt a b c d e g x y (l.trans z) w, fun a b c d e g x y z w => f.ro a b c d e g x y (l.trans z) w, fun a b c d x y z => f.bk a b c d x y (l.trans z), fun a b c d x y z => f.ct a b c d x y (l.trans z)⟩
def tLS (E : En) (m : MS) : TS := fun Q σ H => ∃ F ρ P, SR E F H σ ρ ∧ m P ρ ∧ Fits E F P Q
end
abbrev DE (X : Cx) (E : En) (e : Expr) (m : ME) : Prop := PE X e (tL E m)
abbrev DO (X : Cx) (E : En) (e : Expr) (m : MO) : Prop := PE X e (tLO E m)
abbrev DT (X : Cx) (E : En) (e : Expr) (m : MT) : Prop := PT X e (tLT E m)
abbrev DA (X : Cx) (E : En) (es : List Expr) (m : MA) : Prop := PA X es (tLA E m)
abbrev DS (X : Cx) (E : En) (st : Stmt) (m : MS) : Prop := PS X st (tLS E m)
abbrev DSs (X : Cx) (E : En) (st : List Stmt) (m : MS) : Prop := PSs X st (tLS E m)
/-- another reading -/
theorem PE.to {X : Cx} {e : Expr} {t u : TE} (h : PE X e t) (f : ∀ σ H Q, u σ H Q → t σ H Q) : PE X e u := ⟨fun pins s σ H Q I q => h.run pins s σ H Q I (f σ H Q q)⟩
theorem PT.to {X : Cx} {e : Expr} {t u : TT} (h : PT X e t) (f : ∀ σ H Q, u σ H Q → t σ H Q) : PT X e u := ⟨fun pins s σ H Q I q => h.run pins s σ H Q I (f σ H Q q)⟩
theorem PA.to {X : Cx} {e : List Expr} {t u : TA} (h : PA X e t) (f : ∀ σ H Q, u σ H Q → t σ H Q) : PA X e u := ⟨fun p pins s σ H Q I q => h.run p pins s σ H Q I (f σ H Q q)⟩
theorem PS.to {X : Cx} {e : Stmt} {t u : TS} (h : PS X e t) (f : ∀ D σ H, u D σ H → t D σ H) : PS X e u := ⟨fun pins s σ H D I q => h.run pins s σ H D I (f D σ H q)⟩
theorem PSs.to {X : Cx} {e : List Stmt} {t u : TS} (h : PSs X e t) (f : ∀ D σ H, u D σ H → t D σ H) : PSs X e u := ⟨fun pins s σ H D I q => h.run pins s σ H D I (f D σ H q)⟩
theorem PI.to {X : Cx} {tg e : Expr} {t u : TI} (h : PI X tg e t) (f : ∀ σ H Q, u σ H Q → t σ H Q) : PI X tg e u := ⟨fun pins s σ H R I q => h.run pins s σ H R I (f σ H R q)⟩
end DL
/-! DL4: rules for expressions and plain statements. -/
namespace DL
open PySem L2
section
variable {X : Cx} {E : En} {e a b c : Expr} {pos : Pos} {ma mb mc : ME} {mt mu : MT}
/-! ### atoms -/
def mVar (i : Nat) : ME := fun ρ P => (∃ dv, ρ[i]? = some (some dv)) ∧ P (.sl i) ρ
def mC (d : D) : ME := fun ρ P => P (.val d) ρ
theorem de_var {i : Nat} {x : Str} (h : PE X (.Name x pos) (tVar i)) : DE X E (.Name x pos) (mVar i) := PE.to h fun σ H Q ⟨F, ρ, P, S, ⟨⟨dv, hdv⟩, hp⟩, k⟩ => by
  obtain ⟨v, hv, _⟩ := S.at_ i dv hdv
  exact ⟨v, hv, k _ _ v H F hp S .refl hv⟩
theorem de_c {v : V} {d : D} (h : PE X e (tC v)) (r : ∀ F, Rep F v d) : DE X E e (mC d) := PE.to h fun σ H Q ⟨F, ρ, P, S, hp, k⟩ => k _ _ _ H F hp S .refl (r F)
theorem de_int {i : Int} {j} : DE X E (.Constant (.int i) j pos) (mC (.int i)) := de_c pe_int fun _ => .int i
theorem de_bl {i : Bool} {j} : DE X E (.Constant (.bool i) j pos) (mC (.bl i)) := de_c pe_bl fun _ => .bl i
theorem de_non {j} : DE X E (.Constant .none j pos) (mC .non) := de_c pe_non fun _ => .non
theorem de_str {x : Str} {j} : DE X E (.Constant (.str x) j pos) (mC (.str x)) := de_c pe_str fun _ => .str x
def mOfO (m : MO) : ME := fun ρ P => m ρ fun d ρ' => P (.val d) ρ'
theorem de_o {m : MO} (h : DO X E e m) : DE X E e (mOfO m) := PE.to h fun σ H Q ⟨F, ρ, P, S, hm, k⟩ => by
  refine ⟨F, ρ, _, S, hm, fun d ρ' p H' F' hp S' le N => ?_⟩
  obtain ⟨F2, l2, S2, r⟩ := S'.freeze N
  exact k _ _ _ H' F2 hp S2 (le.trans l2) r
/-! ### arguments -/
def mNil : MA := fun ρ P => P [] ρ
def mCons (m : ME) (n : MA) : MA := fun ρ P => m ρ fun r ρ1 => n ρ1 fun rs ρ2 => P (r :: rs) ρ2
theorem da_nil : DA X E [] mNil := PA.to pa_nil fun σ H Q ⟨F, ρ, P, S, hp, k⟩ => k [] ρ [] H F hp S .refl trivial
theorem da_cons {es : List Expr} {n : MA} (h : DE X E e ma) (hr : DA X E es n) (hs : starEach (e :: es) X.env = (false, eval e X.env) :: starEach es X.env := by rfl) : DA X E (e :: es) (mCons ma n) := PA.to (pa_cons h hr hs) fun σ H Q ⟨F, ρ, P, S, hm, k⟩ =>
  ⟨F, ρ, _, S, hm, fun r ρ1 v H1 F1 hn S1 l1 d1 => ⟨F1, ρ1, _, S1, hn, fun rs ρ2 vs H2 F2 hp S2 l2 d2 => k _ _ _ H2 F2 hp S2 (l1.trans l2) ⟨d1.mono l2, d2⟩⟩⟩
/-! ### operators by values -/
/-- what an operator by values is in data -/
def OpD (r : R2) (g : D → D → D → Prop) : Prop := ∀ (E : En) (F : Fz) (H : Hp) (σ : St) (ρ : DEnv) (x y : V) (d1 d2 d : D) (Q : VK), SR E F H σ ρ → View F H x d1 → View F H y d2 → g d1 d2 d →
  (∀ v H' F', SR E F' H' σ ρ → Le F F' → Rep F' v d → Q v H') → r x y H Q
def OpO (r : R2) (g : D → D → D → Prop) : Prop := ∀ (E : En) (F : Fz) (H : Hp) (σ : St) (ρ : DEnv) (x y : V) (d1 d2 d : D) (Q : VK), SR E F H σ ρ → View F H x d1 → View F H y d2 → g d1 d2 d →
  (∀ p H' F', SR E F' H' σ ρ → Le F F' → NewAt E F' H' σ ρ p d → Q (.ref p) H') → r x y H Q
def mOp (g : D → D → D → Prop) (ma mb : ME) : ME := fun ρ P => ma ρ fun r1 ρ1 => mb ρ1 fun r2 ρ2 => ∃ d1 d2 d, r1.get ρ2 = some d1 ∧ r2.get ρ2 = some d2 ∧ g d1 d2 d ∧ P (.val d) ρ2
def mOpO (g : D → D → D → Prop) (ma mb : ME) : MO := fun ρ P => ma ρ fun r1 ρ1 => mb ρ1 fun r2 ρ2 => ∃ d1 d2 d, r1.get ρ2 = some d1 ∧ r2.get ρ2 = some d2 ∧ g d1 d2 d ∧ P d ρ2
theorem op_to {r : R2} {g : D → D → D → Prop} (o : OpD r g) : ∀ σ H Q, tL E (mOp g ma mb) σ H Q → tOp r (tL E ma) (tL E mb) σ H Q := fun σ H Q ⟨F, ρ, P, S, hm, k⟩ =>
  ⟨F, ρ, _, S, hm, fun r1 ρ1 v H1 F1 hn S1 l1 d1 => ⟨F1, ρ1, _, S1, hn, fun r2 ρ2 y H2 F2 ⟨x1, x2, x, g1, g2, g3, hp⟩ S2 l2 d2 =>
    o E F2 H2 σ ρ2 v y x1 x2 x Q S2 (S2.view (d1.mono l2) g1) (S2.view d2 g2) g3 fun w H3 F3 S3 l3 r3 => k _ _ _ H3 F3 hp S3 ((l1.trans l2).trans l3) r3⟩⟩
theorem opO_to {r : R2} {g : D → D → D → Prop} (o : OpO r g) : ∀ σ H Q, tLO E (mOpO g ma mb) σ H Q → tOp r (tL E ma) (tL E mb) σ H Q := fun σ H Q ⟨F, ρ, P, S, hm, k⟩ =>
  ⟨F, ρ, _, S, hm, fun r1 ρ1 v H1 F1 hn S1 l1 d1 => ⟨F1, ρ1, _, S1, hn, fun r2 ρ2 y H2 F2 ⟨x1, x2, x, g1, g2, g3, hp⟩ S2 l2 d2 =>
    o E F2 H2 σ ρ2 v y x1 x2 x Q S2 (S2.view (d1.mono l2) g1) (S2.view d2 g2) g3 fun w H3 F3 S3 l3 r3 => k _ _ _ H3 F3 hp S3 ((l1.trans l2).trans l3) r3⟩⟩
theorem de_op {op : Operator} {r : R2} {g : D → D → D → Prop} (h : OpR X (binaryOp op) r) (o : OpD r g) (ha : DE X E a ma) (hb : DE X E b mb) : DE X E (.BinOp a op b pos) (mOp g ma mb) := PE.to (pe_op h ha hb) (op_to o)
theorem do_op {op : Operator} {r : R2} {g : D → D → D → Prop} (h : OpR X (binaryOp op) r) (o : OpO r g) (ha : DE X E a ma) (hb : DE X E b mb) : DO X E (.BinOp a op b pos) (mOpO g ma mb) := PE.to (pe_op h ha hb) (opO_to o)
theorem de_cmp {op : CmpOp} {r : R2} {g : D → D → D → Prop} (h : OpR X (compareOp op) r) (o : OpD r g) (ha : DE X E a ma) (hb : DE X E b mb) (hm : behindInMarks op b = false) : DE X E (.Compare a [op] [b] pos) (mOp g ma mb) := PE.to (pe_cmpR h ha hb hm) (op_to o)
/-- a test by a value that is a bool -/
def mTst (m : ME) : MT := fun ρ P => m ρ fun r ρ1 => ∃ k, r.get ρ1 = some (.bl k) ∧ P k ρ1
theorem View.bl {F : Fz} {H : Hp} {v : V} {k : Bool} (h : View F H v (.bl k)) : v = .bl k := by
  rcases h with h | ⟨p, _, _, h⟩
  · cases h; rfl
  · exact h.elim
theorem View.int {F : Fz} {H : Hp} {v : V} {k : Int} (h : View F H v (.int k)) : v = .int k := by
  rcases h with h | ⟨p, _, _, h⟩
  · cases h; rfl
  · exact h.elim
theorem View.str {F : Fz} {H : Hp} {v : V} {k : Str} (h : View F H v (.str k)) : v = .str k := by
  rcases h with h | ⟨p, _, _, h⟩
  · cases h; rfl
  · exact h.elim
theorem View.non {F : Fz} {H : Hp} {v : V} (h : View F H v .non) : v = .non := by
  rcases h with h | ⟨p, _, _, h⟩
  · cases h; rfl
  · exact h.elim
theorem View.lst {F : Fz} {H : Hp} {v : V} {ds : List D} (s : Sits F H) (h : View F H v (.lst ds)) : ∃ p vs, v = .ref p ∧ Rd H p (.lst vs) ∧ Reps F vs ds := by
  rcases h with h | ⟨p, e, _, vs, h, r⟩
  · cases h with
    | lst h r => exact ⟨_, _, rfl, s _ _ h, r⟩
  · exact ⟨p, vs, e, .inl h, r⟩
theorem View.tup {F : Fz} {H : Hp} {v : V} {ds : List D} (s : Sits F H) (h : View F H v (.tup ds)) : ∃ p vs, v = .ref p ∧ Rd H p (.tup vs) ∧ Reps F vs ds := by
  rcases h with h | ⟨p, e, _, h⟩
  · cases h with
    | tup h r => exact ⟨_, _, rfl, s _ _ h, r⟩
  · exact h.elim
theorem View.dic {F : Fz} {H : Hp} {v : V} {ds : List (Key × D)} (s : Sits F H) (h : View F H v (.dic ds)) : ∃ p vs, v = .ref p ∧ Rd H p (.dK vs) ∧ RepK F vs ds := by
  rcases h with h | ⟨p, e, _, vs, h, r⟩
  · cases h with
    | dic h r => exact ⟨_, _, rfl, s _ _ h, r⟩
  · exact ⟨p, vs, e, .inl h, r⟩
theorem View.ins {F : Fz} {H : Hp} {v : V} {C : Addr} {ds : List (Str × D)} (s : Sits F H) (h : View F H v (.ins C ds)) : ∃ p dx vs, v = .ref p ∧ H p = some (.ins C dx vs) ∧ RepF F vs ds := by
  rcases h with h | ⟨p, e, _, dx, vs, h, r⟩
  · cases h with
    | ins h r => exact ⟨_, _, _, rfl, s _ _ h, r⟩
  · exact ⟨p, dx, vs, e, h, r⟩
theorem tst_to : ∀ σ H Q, tLT E (mTst ma) σ H Q → tB (tL E ma) σ H Q := fun σ H Q ⟨F, ρ, P, S, hm, k⟩ =>
  ⟨F, ρ, _, S, hm, fun r ρ1 v H1 F1 ⟨c, g, hp⟩ S1 l1 d1 => ⟨c, (S1.view d1 g).bl, k _ _ H1 F1 hp S1 l1⟩⟩
theorem dt_val (h : DE X E e ma) (he : ∀ whole, isTrue e X.env whole = (do let v ← whole; standAt e.pos; holding [v] (truthy v)) := by intro _; rfl) : DT X E e (mTst ma) := PT.to (pt_val h he) tst_to
theorem dt_cmp {op : CmpOp} {r : R2} {g : D → D → D → Prop} (h : OpR X (compareOp op) r) (o : OpD r g) (ha : DE X E a ma) (hb : DE X E b mb) (hm : behindInMarks op b = false) : DT X E (.Compare a [op] [b] pos) (mTst (mOp g ma mb)) := PT.to (pt_cmpR h ha hb hm) fun σ H Q h => by
  obtain ⟨F, ρ, P, S, hm, k⟩ := h
  exact op_to (ma := ma) (mb := mb) o σ H _ ⟨F, ρ, _, S, hm, fun r ρ1 v H1 F1 ⟨c, g, hp⟩ S1 l1 d1 => ⟨c, (S1.view d1 g).bl, k _ _ H1 F1 hp S1 l1⟩⟩
/-! ### and, or, not, if -/
def mAnd (t u : MT) : MT := fun ρ P => t ρ fun c ρ1 => if c = true then u ρ1 P else P false ρ1
def mOr (t u : MT) : MT := fun ρ P => t ρ fun c ρ1 => if c = true then P true ρ1 else u ρ1 P
def mNot (t : MT) : MT := fun ρ P => t ρ fun c ρ1 => P (!c) ρ1
abbrev DW (X : Cx) (E : En) (e : Expr) (m : MT) : Prop := PW X e (tLT E m)
theorem PW.to {e : Expr} {t u : TT} (h : PW X e t) (f : ∀ σ H Q, u σ H Q → t σ H Q) : PW X e u := ⟨fun w pins s σ H Q I q => h.run w pins s σ H Q I (f σ H Q q)⟩
theorem dw_and1 (h : DT X E a mt) : DW X E (.BoolOp .And [a] pos) mt := pw_and1 h
theorem dw_or1 (h : DT X E a mt) : DW X E (.BoolOp .Or [a] pos) mt := pw_or1 h
theorem dw_and {rest : List Expr} (ha : DT X E a mt) (hb : DW X E (.BoolOp .And (b :: rest) pos) mu) : DW X E (.BoolOp .And (a :: b :: rest) pos) (mAnd mt mu) := PW.to (pw_and ha hb) fun σ H Q ⟨F, ρ, P, S, hm, k⟩ =>
  ⟨F, ρ, _, S, hm, fun c ρ1 H1 F1 h1 S1 l1 => by
    cases c with
    | true => exact ⟨F1, ρ1, P, S1, h1, fun b ρ' H' F' hp S' l' => k b ρ' H' F' hp S' (l1.trans l')⟩
    | false => exact k _ _ H1 F1 h1 S1 l1⟩
theorem dw_or {rest : List Expr} (ha : DT X E a mt) (hb : DW X E (.BoolOp .Or (b :: rest) pos) mu) : DW X E (.BoolOp .Or (a :: b :: rest) pos) (mOr mt mu) := PW.to (pw_or ha hb) fun σ H Q ⟨F, ρ, P, S, hm, k⟩ =>
  ⟨F, ρ, _, S, hm, fun c ρ1 H1 F1 h1 S1 l1 => by
    cases c with
    | false => exact ⟨F1, ρ1, P, S1, h1, fun b ρ' H' F' hp S' l' => k b ρ' H' F' hp S' (l1.trans l')⟩
    | true => exact k _ _ H1 F1 h1 S1 l1⟩
theorem dt_w (h : DW X E e mt) : DT X E e mt := h.pt
theorem dt_not (h : DT X E a mt) : DT X E (.UnaryOp .Not a pos) (mNot mt) := PT.to (pt_not h) fun σ H Q ⟨F, ρ, P, S, hm, k⟩ => ⟨F, ρ, _, S, hm, fun c ρ1 H1 F1 h1 S1 l1 => k _ _ H1 F1 h1 S1 l1⟩
/-- as values (bools) -/
def mOfT (t : MT) : ME := fun ρ P => t ρ fun c ρ1 => P (.val (.bl c)) ρ1
def mAndV (m n : ME) : ME := fun ρ P => m ρ fun r ρ1 => ∃ c, r.get ρ1 = some (.bl c) ∧ if c = true then n ρ1 P else P (.val (.bl false)) ρ1
def mOrV (m n : ME) : ME := fun ρ P => m ρ fun r ρ1 => ∃ c, r.get ρ1 = some (.bl c) ∧ if c = true then P (.val (.bl true)) ρ1 else n ρ1 P
def mNotV (m : ME) : ME := fun ρ P => m ρ fun r ρ1 => ∃ c, r.get ρ1 = some (.bl c) ∧ P (.val (.bl (!c))) ρ1
theorem de_one {op} (h : DE X E a ma) : DE X E (.BoolOp op [a] pos) ma := pe_one h
theorem de_and {rest : List Expr} (ha : DE X E a ma) (hb : DE X E (.BoolOp .And (b :: rest) pos) mb) : DE X E (.BoolOp .And (a :: b :: rest) pos) (mAndV ma mb) := PE.to (pe_and ha hb) fun σ H Q ⟨F, ρ, P, S, hm, k⟩ =>
  ⟨F, ρ, _, S, hm, fun r ρ1 v H1 F1 ⟨c, g, h1⟩ S1 l1 d1 => ⟨c, (S1.view d1 g).bl, by
    cases c with
    | true => exact ⟨F1, ρ1, P, S1, h1, fun r ρ' v H' F' hp S' l' => k r ρ' v H' F' hp S' (l1.trans l')⟩
    | false => exact k _ _ _ H1 F1 h1 S1 l1 (.bl _)⟩⟩
theorem de_or {rest : List Expr} (ha : DE X E a ma) (hb : DE X E (.BoolOp .Or (b :: rest) pos) mb) : DE X E (.BoolOp .Or (a :: b :: rest) pos) (mOrV ma mb) := PE.to (pe_or ha hb) fun σ H Q ⟨F, ρ, P, S, hm, k⟩ =>
  ⟨F, ρ, _, S, hm, fun r ρ1 v H1 F1 ⟨c, g, h1⟩ S1 l1 d1 => ⟨c, (S1.view d1 g).bl, by
    cases c with
    | false => exact ⟨F1, ρ1, P, S1, h1, fun r ρ' v H' F' hp S' l' => k r ρ' v H' F' hp S' (l1.trans l')⟩
    | true => exact k _ _ _ H1 F1 h1 S1 l1 (.bl _)⟩⟩
theorem de_not (ha : DE X E a ma) : DE X E (.UnaryOp .Not a pos) (mNotV ma) := PE.to (pe_not ha) fun σ H Q ⟨F, ρ, P, S, hm, k⟩ =>
  ⟨F, ρ, _, S, hm, fun r ρ1 v H1 F1 ⟨c, g, h1⟩ S1 l1 d1 => ⟨c, (S1.view d1 g).bl, k _ _ _ H1 F1 h1 S1 l1 (.bl _)⟩⟩
def mIfE (t : MT) (m n : ME) : ME := fun ρ P => t ρ fun c ρ1 => if c = true then m ρ1 P else n ρ1 P
theorem de_if (hc : DT X E c mt) (ha : DE X E a ma) (hb : DE X E b mb) : DE X E (.IfExp c a b pos) (mIfE mt ma mb) := PE.to (pe_ifExp hc ha hb) fun σ H Q ⟨F, ρ, P, S, hm, k⟩ =>
  ⟨F, ρ, _, S, hm, fun c ρ1 H1 F1 h1 S1 l1 => by
    cases c with
    | true => exact ⟨F1, ρ1, P, S1, h1, fun r ρ' v H' F' hp S' l' => k r ρ' v H' F' hp S' (l1.trans l')⟩
    | false => exact ⟨F1, ρ1, P, S1, h1, fun r ρ' v H' F' hp S' l' => k r ρ' v H' F' hp S' (l1.trans l')⟩⟩
end
section
variable {X : Cx} {E : En} {e a b c : Expr} {pos : Pos} {me : ME} {mt : MT} {st : Stmt} {sts rest : List Stmt} {m n : MS}
/-! ### statements -/
def mSkip : MS := fun K ρ => K.nx ρ
def mSeq (m n : MS) : MS := fun K ρ => m { K with nx := n K } ρ
theorem fits_nx {F : Fz} {P : DEnds} {Q : Ends} {ρ : DEnv} {σ : St} {H : Hp} (f : Fits E F P Q) (S : SR E F H σ ρ) (h : P.nx ρ) : Q.nx σ H := f.nx ρ σ H F h S .refl
theorem dss_nil : DSs X E [] mSkip := PSs.to pss_nil fun Q σ H ⟨F, ρ, P, S, h, f⟩ => fits_nx f S h
theorem Fits.nxt {F : Fz} {P : DEnds} {Q : Ends} (f : Fits E F P Q) {N : DEnv → Prop} {M : St → Hp → Prop} (h : ∀ ρ' σ' H' F', N ρ' → SR E F' H' σ' ρ' → Le F F' → M σ' H') : Fits E F { P with nx := N } { Q with nx := M } := ⟨h, f.rt, f.ro, f.bk, f.ct⟩
theorem dss_cons (h1 : DS X E st m) (h2 : DSs X E rest n) : DSs X E (st :: rest) (mSeq m n) := PSs.to (pss_cons h1 h2) fun Q σ H ⟨F, ρ, P, S, h, f⟩ =>
  ⟨F, ρ, _, S, h, f.nxt fun ρ' σ' H' F' hn S' l => ⟨F', ρ', P, S', hn, f.le l⟩⟩
theorem dss_one (h1 : DS X E st m) : DSs X E [st] m := PSs.to (pss_one h1) fun _ _ _ h => h
theorem ds_pass : DS X E (.Pass pos) mSkip := PS.to ps_pass fun Q σ H ⟨F, ρ, P, S, h, f⟩ => fits_nx f S h
def mBrk : MS := fun K ρ => K.bk ρ
def mCnt : MS := fun K ρ => K.ct ρ
theorem ds_break : DS X E (.Break pos) mBrk := PS.to ps_break fun Q σ H ⟨F, ρ, P, S, h, f⟩ => f.bk ρ σ H F h S .refl
theorem ds_continue : DS X E (.Continue pos) mCnt := PS.to ps_continue fun Q σ H ⟨F, ρ, P, S, h, f⟩ => f.ct ρ σ H F h S .refl
theorem ds_doc {x j pos'} : DS X E (.Expr (.Constant (.str x) j pos) pos') mSkip := PS.to ps_doc fun Q σ H ⟨F, ρ, P, S, h, f⟩ => fits_nx f S h
def mNever : MS := fun _ _ => False
theorem ds_never : DS X E st mNever := PS.to ps_never fun Q σ H ⟨F, ρ, P, S, h, f⟩ => h
theorem dss_never : DSs X E sts mNever := PSs.to pss_never fun Q σ H ⟨F, ρ, P, S, h, f⟩ => h
def mDrop (m : ME) : MS := fun K ρ => m ρ fun _ ρ1 => K.nx ρ1
theorem ds_expr (h : DE X E e me) (hs : swapsWith e none pos.line X.env = pure false := by rfl) : DS X E (.Expr e pos) (mDrop me) := PS.to (ps_expr h hs) fun Q σ H ⟨F, ρ, P, S, h, f⟩ =>
  ⟨F, ρ, _, S, h, fun r ρ1 v H1 F1 hp S1 l1 _ => f.nx ρ1 σ H1 F1 hp S1 l1⟩
def mRet (m : ME) : MS := fun K ρ => m ρ fun r ρ1 => ∃ d ρ2, esc ρ1 r = some (d, ρ2) ∧ K.rt d ρ2
theorem ds_ret (h : DE X E e me) : DS X E (.Return (some e) pos) (mRet me) := PS.to (ps_ret h) fun Q σ H ⟨F, ρ, P, S, h, f⟩ =>
  ⟨F, ρ, _, S, h, fun r ρ1 v H1 F1 ⟨d, ρ2, he, hp⟩ S1 l1 d1 => by
    obtain ⟨F2, l2, S2, r2⟩ := S1.esc d1 he
    exact f.rt d ρ2 σ v H1 F2 hp S2 (l1.trans l2) r2⟩
def mRetN : MS := fun K ρ => K.rt .non ρ
theorem ds_retN : DS X E (.Return none pos) mRetN := PS.to ps_retN fun Q σ H ⟨F, ρ, P, S, h, f⟩ => f.rt .non ρ σ .non H F h S .refl .non
def mRetO (m : MO) : MS := fun K ρ => m ρ fun d ρ1 => K.ro d ρ1
theorem ds_retO {m : MO} (h : DO X E e m) : DS X E (.Return (some e) pos) (mRetO m) := PS.to (ps_ret h) fun Q σ H ⟨F, ρ, P, S, h, f⟩ =>
  ⟨F, ρ, _, S, h, fun d ρ1 p H1 F1 hp S1 l1 N => f.ro d ρ1 σ p H1 F1 hp S1 l1 ⟨N.fz, N.own, .inl N.en⟩⟩
def mRetV (i : Nat) : MS := fun K ρ => ∃ d, ρ[i]? = some (some (.ow d)) ∧ K.ro d ρ
theorem ds_retV {i : Nat} {x : Str} {p : Pos} (h : PE X (.Name x p) (tVar i)) : DS X E (.Return (some (.Name x p)) pos) (mRetV i) := PS.to (ps_ret h) fun Q σ H ⟨F, ρ, P, S, ⟨d, e, hp⟩, f⟩ => by
  obtain ⟨v, hv, q, rfl, b, c⟩ := S.at_ i _ e
  exact ⟨_, hv, f.ro d ρ σ q H F hp S .refl ⟨b, c, .inr ⟨i, hv, e⟩⟩⟩
def mIfS (t : MT) (m n : MS) : MS := fun K ρ => t ρ fun c ρ1 => if c = true then m K ρ1 else n K ρ1
theorem ds_if {x y : List Stmt} (hc : DT X E c mt) (ha : DSs X E x m) (hb : DSs X E y n) : DS X E (.If c x y pos) (mIfS mt m n) := PS.to (ps_if hc ha hb) fun Q σ H ⟨F, ρ, P, S, h, f⟩ =>
  ⟨F, ρ, _, S, h, fun c ρ1 H1 F1 h1 S1 l1 => by
    cases c with
    | true => exact ⟨F1, ρ1, P, S1, h1, f.le l1⟩
    | false => exact ⟨F1, ρ1, P, S1, h1, f.le l1⟩⟩
/-! ### targets, assignments -/
abbrev MG := D → DEnv → (DEnv → Prop) → Prop
abbrev MGs := List D → DEnv → (DEnv → Prop) → Prop
def tLG (E : En) (m : MG) : TG := fun v σ H Q => ∃ F ρ d P, SR E F H σ ρ ∧ Rep F v d ∧ m d ρ P ∧ ∀ ρ' σ' H' F', P ρ' → SR E F' H' σ' ρ' → Le F F' → Q σ' H'
def tLGs (E : En) (m : MGs) : TGs := fun vs σ H Q => ∃ F ρ ds P, SR E F H σ ρ ∧ Reps F vs ds ∧ m ds ρ P ∧ ∀ ρ' σ' H' F', P ρ' → SR E F' H' σ' ρ' → Le F F' → Q σ' H'
abbrev DG (X : Cx) (E : En) (tg : Expr) (m : MG) : Prop := PG X tg (tLG E m)
abbrev DGs (X : Cx) (E : En) (tgs : List Expr) (m : MGs) : Prop := PGs X tgs (tLGs E m)
theorem PG.to {tg : Expr} {t u : TG} (h : PG X tg t) (f : ∀ v σ H Q, u v σ H Q → t v σ H Q) : PG X tg u := ⟨fun pins s σ H v w Q I r q => h.run pins s σ H v w Q I r (f v σ H Q q)⟩
theorem PGs.to {tg : List Expr} {t u : TGs} (h : PGs X tg t) (f : ∀ v σ H Q, u v σ H Q → t v σ H Q) : PGs X tg u := ⟨fun pins s σ H v w Q I r q => h.run pins s σ H v w Q I r (f v σ H Q q)⟩
theorem SR.fzSet {F : Fz} {H : Hp} {σ : St} {ρ : DEnv} {v : V} {d : D} (S : SR E F H σ ρ) (i : Nat) (r : Rep F v d) : SR E F H (σ.set i (some v)) (ρ.set i (some (.fz d))) := S.put (dv := .fz d) r (fun _ z => by cases z) fun z => by cases z
theorem SR.owSet {F : Fz} {H : Hp} {σ : St} {ρ : DEnv} {p : Addr} {d : D} (S : SR E F H σ ρ) (i : Nat) (N : NewAt E F H σ ρ p d) : SR E F H (σ.set i (some (.ref p))) (ρ.set i (some (.ow d))) := S.put (dv := .ow d) ⟨p, rfl, N.fz, N.own⟩ (fun _ z => by cases z) fun _ q e => by
  cases e
  refine ⟨fun ⟨j, h1, dv, h2, h3⟩ => N.no ⟨j, h1, dv, ?_, h3⟩, .inr N.en⟩
  by_cases ji : j = i
  · subst ji
    by_cases hl : j < ρ.length
    · rw [List.getElem?_set_self hl] at h2; cases h2
    · rw [List.getElem?_eq_none (by simpa using hl)] at h2; cases h2
  · rw [List.getElem?_set_ne (Ne.symm ji)] at h2; exact h2
def gSet (i : Nat) : MG := fun d ρ Q => Q (ρ.set i (some (.fz d)))
theorem dg_name {i : Nat} {x : Str} (h : PG X (.Name x pos) (gName i)) : DG X E (.Name x pos) (gSet i) := PG.to h fun v σ H Q ⟨F, ρ, d, P, S, r, hp, k⟩ => k _ _ H F hp (S.fzSet i r) .refl
def gsNil : MGs := fun ds ρ Q => ds = [] ∧ Q ρ
def gsCons (m : MG) (n : MGs) : MGs := fun ds ρ Q => ∃ d r, ds = d :: r ∧ m d ρ fun ρ1 => n r ρ1 Q
theorem dgs_nil : DGs X E [] gsNil := PGs.to pgs_nil fun vs σ H Q ⟨F, ρ, ds, P, S, r, ⟨e, hp⟩, k⟩ => by
  subst e
  cases r
  exact ⟨rfl, k _ _ H F hp S .refl⟩
theorem dgs_cons {es : List Expr} {m : MG} {n : MGs} (h1 : DG X E e m) (h2 : DGs X E es n) (hs : (assignEach (e :: es) X.env).map (·.2) = assign e X.env :: (assignEach es X.env).map (·.2) := by rfl) : DGs X E (e :: es) (gsCons m n) := PGs.to (pgs_cons h1 h2 hs) fun vs σ H Q ⟨F, ρ, ds, P, S, r, ⟨d, dr, e, hm⟩, k⟩ => by
  subst e
  cases r with
  | cons r rr => exact ⟨_, _, rfl, F, ρ, d, _, S, r, hm, fun ρ1 σ1 H1 F1 hn S1 l1 => ⟨F1, ρ1, dr, P, S1, rr.mono l1, hn, fun ρ2 σ2 H2 F2 hp S2 l2 => k _ _ H2 F2 hp S2 (l1.trans l2)⟩⟩
def gTupD (n : Nat) (m : MGs) : MG := fun d ρ Q => ∃ ds, d = .tup ds ∧ ds.length = n ∧ m ds ρ Q
theorem dg_tup {es : List Expr} {k : Nat} {m : MGs} {n : Nat} (hc : X.calm = true) (h : DGs X E es m) (hn : (assignEach es X.env).length = n := by rfl) (hst : (assignEach es X.env).findIdx? (·.1) = none := by rfl) : DG X E (.Tuple es k pos) (gTupD n m) := PG.to (pg_tup hc h hn hst) fun v σ H Q ⟨F, ρ, d, P, S, r, ⟨ds, e, hl, hm⟩, k⟩ => by
  subst e
  cases r with
  | tup h rs => exact ⟨_, _, rfl, .inl (S.hard h), by rw [rs.length, hl], F, ρ, ds, P, S, rs, hm, k⟩
def mSet (m : ME) (g : MG) : MS := fun K ρ => m ρ fun r ρ1 => ∃ d ρ2, esc ρ1 r = some (d, ρ2) ∧ g d ρ2 K.nx
theorem asg_to {g : MG} : ∀ Q σ H, tLS E (mSet me g) Q σ H → tAsg (tL E me) (tLG E g) Q σ H := fun Q σ H ⟨F, ρ, P, S, h, f⟩ =>
  ⟨F, ρ, _, S, h, fun r ρ1 v H1 F1 ⟨d, ρ2, he, hg⟩ S1 l1 d1 => by
    obtain ⟨F2, l2, S2, r2⟩ := S1.esc d1 he
    exact ⟨F2, ρ2, d, _, S2, r2, hg, fun ρ3 σ3 H3 F3 hp S3 l3 => f.nx ρ3 σ3 H3 F3 hp S3 ((l1.trans l2).trans l3)⟩⟩
theorem ds_asg {tg : Expr} {g : MG} (he : DE X E e me) (hg : DG X E tg g) (hs : swapsWithSole [tg] e pos.line X.env = pure false := by rfl) (hw : swappedStores [tg] e X.env = pure none := by rfl)
    (h1 : (assignEach [tg] X.env).map (·.2) = [assign tg X.env] := by rfl) : DS X E (.Assign [tg] e pos) (mSet me g) := PS.to (ps_asg he hg hs hw h1) asg_to
def mSetO (i : Nat) (m : MO) : MS := fun K ρ => m ρ fun d ρ1 => K.nx (ρ1.set i (some (.ow d)))
theorem ds_setO {i : Nat} {x : Str} {p : Pos} {m : MO} (h : PS X (.Assign [.Name x p] e pos) (tAsg (tLO E m) (gName i))) : DS X E (.Assign [.Name x p] e pos) (mSetO i m) := PS.to h fun Q σ H ⟨F, ρ, P, S, h, f⟩ =>
  ⟨F, ρ, _, S, h, fun d ρ1 p H1 F1 hp S1 l1 N => f.nx _ _ H1 F1 hp (S1.owSet i N) l1⟩
/-! ### while -/
def mWhile (t : MT) (b : MS) : MS := fun K ρ => ∃ W : Nat → DEnv → Prop, (∃ m, W m ρ) ∧ ∀ m ρ, W m ρ → t ρ fun c ρ1 => if c = true then b { K with nx := fun ρ' => ∃ m', m' < m ∧ W m' ρ', ct := fun ρ' => ∃ m', m' < m ∧ W m' ρ', bk := K.nx } ρ1 else K.nx ρ1
theorem ds_while {body : List Stmt} (hp : PassesOwn (model X.prog X.w) X.A X.env X.xe) (hc : DT X E c mt) (hb : DSs X E body m) : DS X E (.While c body [] pos) (mWhile mt m) := PS.to (ps_while hp hc hb) fun Q σ H ⟨F, ρ, P, S, ⟨W, ⟨m0, w0⟩, turn⟩, f⟩ => by
  refine ⟨fun m σ H => ∃ F' ρ, SR E F' H σ ρ ∧ Le F F' ∧ W m ρ, ⟨m0, F, ρ, S, .refl, w0⟩, ?_⟩
  rintro m σ H ⟨F1, ρ1, S1, l1, w1⟩
  refine ⟨F1, ρ1, _, S1, turn m ρ1 w1, fun c ρ2 H2 F2 h2 S2 l2 => ?_⟩
  cases c with
  | true =>
    refine ⟨fun σ' H' => ∃ m', m' < m ∧ ∃ F' ρ, SR E F' H' σ' ρ ∧ Le F F' ∧ W m' ρ, fun σ' H' h => h, F2, ρ2, _, S2, h2, ?_⟩
    have go : ∀ ρ' σ' H' F', (∃ m', m' < m ∧ W m' ρ') → SR E F' H' σ' ρ' → Le F2 F' → ∃ m', m' < m ∧ ∃ F' ρ, SR E F' H' σ' ρ ∧ Le F F' ∧ W m' ρ := fun ρ' σ' H' F' ⟨m', lt, w⟩ S' l' => ⟨m', lt, F', ρ', S', (l1.trans l2).trans l', w⟩
    have f2 := f.le (l1.trans l2)
    exact ⟨go, f2.rt, f2.ro, f2.nx, go⟩
  | false => exact f.nx ρ2 σ H2 F2 h2 S2 (l1.trans l2)
end
end DL
/-! DL5: operators in data. -/
namespace DL
open PySem L2
theorem OpD.or {r r' : R2} {g g' : D → D → D → Prop} (h : OpD r g) (h' : OpD r' g') : OpD (fun x y H Q => r x y H Q ∨ r' x y H Q) (fun a b d => g a b d ∨ g' a b d) := fun E F H σ ρ x y d1 d2 d Q S v1 v2 gg k => by
  rcases gg with gg | gg
  · exact .inl (h E F H σ ρ x y d1 d2 d Q S v1 v2 gg k)
  · exact .inr (h' E F H σ ρ x y d1 d2 d Q S v1 v2 gg k)
theorem OpD.to {r : R2} {g g' : D → D → D → Prop} (h : OpD r g) (f : ∀ a b d, g' a b d → g a b d) : OpD r g' := fun E F H σ ρ x y d1 d2 d Q S v1 v2 gg k => h E F H σ ρ x y d1 d2 d Q S v1 v2 (f _ _ _ gg) k
def gI (C : Int → Int → Prop) (f : Int → Int → D) : D → D → D → Prop := fun a b d => ∃ i j, a = .int i ∧ b = .int j ∧ C i j ∧ d = f i j
theorem od_I {C : Int → Int → Prop} {f : Int → Int → V} {g : Int → Int → D} (h : ∀ F i j, Rep F (f i j) (g i j)) : OpD (rI C f) (gI C g) := fun E F H σ ρ x y d1 d2 d Q S v1 v2 ⟨i, j, e1, e2, c, e3⟩ k => by
  subst e1; subst e2; subst e3
  exact ⟨i, j, v1.int, v2.int, c, k _ H F S .refl (h F i j)⟩
theorem od_I0 {f : Int → Int → V} {g : Int → Int → D} (h : ∀ F i j, Rep F (f i j) (g i j)) : OpD (rI0 f) (gI (fun _ _ => True) g) := fun E F H σ ρ x y d1 d2 d Q S v1 v2 ⟨i, j, e1, e2, c, e3⟩ k => by
  subst e1; subst e2; subst e3
  exact ⟨i, j, v1.int, v2.int, k _ H F S .refl (h F i j)⟩
def gS (C : Str → Str → Prop) (f : Str → Str → D) : D → D → D → Prop := fun a b d => ∃ i j, a = .str i ∧ b = .str j ∧ C i j ∧ d = f i j
/-- a new list, a new tuple -/
theorem SR.newLst {E : En} {F : Fz} {H : Hp} {σ : St} {ρ : DEnv} {vs : List V} {ds : List D} {p : Addr} (S : SR E F H σ ρ) (h : H p = none) (r : Reps F vs ds) : SR E F (upd H p (.lst vs)) σ ρ ∧ NewAt E F (upd H p (.lst vs)) σ ρ p (.lst ds) :=
  ⟨S.lay h, S.nil h, ⟨vs, upd_same, r⟩, S.fresh h, S.go.free h⟩
theorem SR.newTup {E : En} {F : Fz} {H : Hp} {σ : St} {ρ : DEnv} {vs : List V} {ds : List D} {p : Addr} (S : SR E F H σ ρ) (h : H p = none) (r : Reps F vs ds) : ∃ F', SR E F' (upd H p (.tup vs)) σ ρ ∧ Le F F' ∧ Rep F' (.ref p) (.tup ds) := by
  obtain ⟨S', l⟩ := S.layF (o := .tup vs) h
  exact ⟨_, S', l, .tup updF_same (r.mono l)⟩
def rCatR (K : PySem.W.Frag) : R2 := fun x y H Q => ∃ l b xs zs, x = .ref l ∧ y = .ref b ∧ SqL K H l xs ∧ SqL K H b zs ∧ xs.length + zs.length ≤ sizeLine ∧ ∀ p, H p = none → Q (.ref p) (upd H p (.lst (xs ++ zs)))
theorem op_catR {X : Cx} : OpR X (binaryOp .Add) (rCatR X.K) := by
  intro pins s σ H x y v u Q I rx ry h
  obtain ⟨l, b, xs, zs, rfl, rfl, hH, hB, hz, q⟩ := h
  cases rx
  cases ry
  obtain ⟨its, r, ⟨⟨c1, d1, da1, sl1⟩, n, e, k1, k2, k3⟩, z⟩ := I.list hH
  obtain ⟨its2, r2, ⟨⟨c2, d2, da2, sl2⟩, n2, e2, m1, m2, m3⟩, z2⟩ := I.list hB
  simp only at k1 k2 k3 m1 m2 m3
  subst k1 k2 k3 m1 m2 m3
  have ea : its.toArray ++ its2.toArray = (its ++ its2).toArray := by simp
  refine PySem.concat_meets ⟨_, e, rfl⟩ ⟨_, e2, rfl⟩ PySem.noFill_list_add PySem.seq_list_add PySem.F.slot_list_add PySem.F.entry_list_add (PySem.F.args_list_add_2 _ _) (PyProof.Rows.list_addW l b its.toArray its2.toArray n n2 none none sl1 sl2 (by have := r.length; have := r2.length; simp; omega)) ⟨e, e2, ?_⟩
  rw [ea]
  exact ⟨.ref _, _, I.lnew (t' := s.toks) (r.append r2) (by rw [List.length_append]; omega), rfl, q _ I.fresh⟩
def gCat : D → D → D → Prop := fun a b d => ∃ xs ys, a = .lst xs ∧ b = .lst ys ∧ xs.length + ys.length ≤ sizeLine ∧ d = .lst (xs ++ ys)
theorem oo_cat {K : PySem.W.Frag} : OpO (rCatR K) gCat := fun E F H σ ρ x y d1 d2 d Q S v1 v2 ⟨xs, ys, e1, e2, hl, e3⟩ k => by
  subst e1; subst e2; subst e3
  obtain ⟨p, vs, e1, hp, r1⟩ := v1.lst S.sits
  obtain ⟨q, ws, e2, hq, r2⟩ := v2.lst S.sits
  refine ⟨p, q, vs, ws, e1, e2, .inl hp, .inl hq, by rw [r1.length, r2.length]; exact hl, fun t ht => ?_⟩
  obtain ⟨S', N⟩ := S.newLst ht (r1.append r2)
  exact k t _ F S' .refl N
theorem OpO.d {r : R2} {g : D → D → D → Prop} (h : OpO r g) : OpD r g := fun E F H σ ρ x y d1 d2 d Q S v1 v2 gg k => h E F H σ ρ x y d1 d2 d Q S v1 v2 gg fun p H' F' S' l N => by
  obtain ⟨F2, l2, S2, r⟩ := S'.freeze N
  exact k _ H' F2 S2 (l.trans l2) r
def gCatT : D → D → D → Prop := fun a b d => ∃ xs ys, a = .tup xs ∧ b = .tup ys ∧ xs.length + ys.length ≤ sizeLine ∧ d = .tup (xs ++ ys)
theorem od_catT {K : PySem.W.Frag} : OpD (rCatA K) gCatT := fun E F H σ ρ x y d1 d2 d Q S v1 v2 ⟨xs, ys, e1, e2, hl, e3⟩ k => by
  subst e1; subst e2; subst e3
  have v1' := v1
  have v2' := v2
  obtain ⟨p, vs, e1, hp, r1⟩ := v1.tup S.sits
  obtain ⟨q, ws, e2, hq, r2⟩ := v2.tup S.sits
  subst e1; subst e2
  have w1 : Rep F (.ref p) (.tup xs) := by
    rcases v1' with z | ⟨_, _, _, z⟩
    · exact z
    · exact z.elim
  have w2 : Rep F (.ref q) (.tup ys) := by
    rcases v2' with z | ⟨_, _, _, z⟩
    · exact z
    · exact z.elim
  refine ⟨p, q, vs, ws, rfl, rfl, .inl hp, .inl hq, by rw [r1.length, r2.length]; exact hl, fun e => ?_, fun n e => ?_, fun n n' t ht => ?_⟩
  · subst e
    have : xs = [] := by cases r1; rfl
    subst this
    exact k _ H F S .refl w2
  · subst e
    have : ys = [] := by cases r2; rfl
    subst this
    have e : xs ++ ([] : List D) = xs := List.append_nil xs
    exact k _ H F S .refl (by rw [e]; exact w1)
  · obtain ⟨F', S', l, r⟩ := S.newTup ht (r1.append r2)
    exact k _ _ F' S' l r
def gAdd : D → D → D → Prop := fun a b d => (gI (fun _ _ => True) (fun i j => .int (i + j)) a b d ∨ gS (fun i j => i.length + j.length ≤ sizeLine) (fun i j => .str (i ++ j)) a b d) ∨ (gCat a b d ∨ gCatT a b d)
section
variable {X : Cx}
theorem op_addAll : OpR X (binaryOp .Add) (fun x y H Q => ((rI0 fun i j => .int (i + j)) x y H Q ∨ (fun x y H (Q : VK) => ∃ i j, x = .str i ∧ y = .str j ∧ i.length + j.length ≤ sizeLine ∧ Q (.str (i ++ j)) H) x y H Q) ∨ (rCatR X.K x y H Q ∨ rCatA X.K x y H Q)) := (op_add.or op_add_str).or (op_catR.or op_catA)
theorem od_addAll {K : PySem.W.Frag} : OpD (fun x y H Q => ((rI0 fun i j => .int (i + j)) x y H Q ∨ (fun x y H (Q : VK) => ∃ i j, x = .str i ∧ y = .str j ∧ i.length + j.length ≤ sizeLine ∧ Q (.str (i ++ j)) H) x y H Q) ∨ (rCatR K x y H Q ∨ rCatA K x y H Q)) gAdd :=
  ((od_I0 fun _ i j => .int (i + j)).or fun E F H σ ρ x y d1 d2 d Q S v1 v2 ⟨i, j, e1, e2, c, e3⟩ k => by
    subst e1; subst e2; subst e3
    exact ⟨i, j, v1.str, v2.str, c, k _ H F S .refl (.str _)⟩).or (oo_cat.d.or od_catT)
end
/-! the answers one by one -/
@[simp] theorem gAdd_int {i j : Int} {d : D} : gAdd (.int i) (.int j) d ↔ d = .int (i + j) := by simp [gAdd, gI, gS, gCat, gCatT]
@[simp] theorem gAdd_str {i j : Str} {d : D} : gAdd (.str i) (.str j) d ↔ i.length + j.length ≤ sizeLine ∧ d = .str (i ++ j) := by simp [gAdd, gI, gS, gCat, gCatT]
@[simp] theorem gAdd_lst {i j : List D} {d : D} : gAdd (.lst i) (.lst j) d ↔ i.length + j.length ≤ sizeLine ∧ d = .lst (i ++ j) := by simp [gAdd, gI, gS, gCat, gCatT]
@[simp] theorem gAdd_tup {i j : List D} {d : D} : gAdd (.tup i) (.tup j) d ↔ i.length + j.length ≤ sizeLine ∧ d = .tup (i ++ j) := by simp [gAdd, gI, gS, gCat, gCatT]
@[simp] theorem gI_int {C : Int → Int → Prop} {f : Int → Int → D} {i j : Int} {d : D} : gI C f (.int i) (.int j) d ↔ C i j ∧ d = f i j := by simp [gI]
@[simp] theorem gCat_lst {i j : List D} {d : D} : gCat (.lst i) (.lst j) d ↔ i.length + j.length ≤ sizeLine ∧ d = .lst (i ++ j) := by simp [gCat]
/-! - * // % ** -/
section
variable {X : Cx}
def gSub : D → D → D → Prop := gI (fun _ _ => True) fun i j => .int (i - j)
theorem od_sub : OpD (rI0 fun i j => V.int (i - j)) gSub := od_I0 fun _ i j => .int (i - j)
def gMulI : D → D → D → Prop := gI CMulX fun i j => .int (i * j)
theorem od_mulI : OpD (rI CMulX fun i j => V.int (i * j)) gMulI := od_I fun _ i j => .int (i * j)
def gDiv : D → D → D → Prop := gI CDivW fun i j => .int (i / j)
theorem od_div : OpD (rI CDivW fun i j => V.int (i / j)) gDiv := od_I fun _ i j => .int (i / j)
def gMod : D → D → D → Prop := gI (fun _ j => 0 < j) fun i j => .int (i % j)
theorem od_mod : OpD (rI (fun _ j => 0 < j) fun i j => V.int (i % j)) gMod := od_I fun _ i j => .int (i % j)
def CPowW (i j : Int) : Prop := 0 ≤ j ∧ (Builtin.Int.intBits i : Int) * j ≤ 134217728
def gPow : D → D → D → Prop := gI CPowW fun i j => .int (i ^ j.toNat)
theorem op_powW : OpR X (binaryOp .Pow) (rI CPowW fun i j => .int (i ^ j.toNat)) := opI fun i j _ _ _ _ _ hc q => PyProof.Rows.pow_int hc.1 (by have := hc.2; exact this) q
theorem od_pow : OpD (rI CPowW fun i j => V.int (i ^ j.toNat)) gPow := od_I fun _ i j => .int (i ^ j.toNat)
end
end DL
/-! DL6: comparisons in data. -/
namespace DL
open PySem L2
/-! ### data as Python compares it: None, bools, ints, texts, lists, tuples -/
mutual
def py : D → PyData
  | .non => .none
  | .bl b => .bool b
  | .int i => .int i
  | .str x => .str x
  | .lst xs => .list (pys xs)
  | .tup xs => .tuple (pys xs)
  | .ty _ => .none
  | .dic _ => .none
  | .ins _ _ => .none
  | .exc _ _ _ _ => .none
  | .mem _ _ => .none
def pys : List D → List PyData
  | [] => []
  | x :: xs => py x :: pys xs
end
mutual
/-- plain data of nesting at most n -/
def plain : Nat → D → Bool
  | _, .non => true
  | _, .bl _ => true
  | _, .int _ => true
  | _, .str x => PyData.strOk x
  | 0, .lst _ => false
  | n + 1, .lst xs => plains n xs
  | 0, .tup _ => false
  | n + 1, .tup xs => plains n xs
  | _, .ty _ => false
  | _, .dic _ => false
  | _, .ins _ _ => false
  | _, .exc _ _ _ _ => false
  | _, .mem _ _ => false
def plains : Nat → List D → Bool
  | _, [] => true
  | n, x :: xs => plain n x && plains n xs
end
mutual
theorem py_ok : ∀ (n : Nat) (d : D), plain n d = true → (py d).canLay0 = true ∧ (py d).depth ≤ n
  | n, .non, _ => by simp [py, PyData.canLay0, PyData.depth]
  | n, .bl b, _ => by simp [py, PyData.canLay0, PyData.depth]
  | n, .int b, _ => by simp [py, PyData.canLay0, PyData.depth]
  | n, .str x, h => by
    have h' : PyData.strOk x = true := by cases n <;> simpa [plain] using h
    simp [py, PyData.canLay0, PyData.depth, h']
  | 0, .lst xs, h => by simp [plain] at h
  | n + 1, .lst xs, h => by
    obtain ⟨a, b⟩ := pys_ok n xs (by simpa [plain] using h)
    simp [py, PyData.canLay0, PyData.depth, a, b]
  | 0, .tup xs, h => by simp [plain] at h
  | n + 1, .tup xs, h => by
    obtain ⟨a, b⟩ := pys_ok n xs (by simpa [plain] using h)
    simp [py, PyData.canLay0, PyData.depth, a, b]
  | n, .ty _, h => by cases n <;> simp [plain] at h
  | n, .dic _, h => by cases n <;> simp [plain] at h
  | n, .ins _ _, h => by cases n <;> simp [plain] at h
  | n, .exc _ _ _ _, h => by cases n <;> simp [plain] at h
  | n, .mem _ _, h => by cases n <;> simp [plain] at h
theorem pys_ok : ∀ (n : Nat) (ds : List D), plains n ds = true → PyData.canLayAll0 (pys ds) = true ∧ PyData.depthAll (pys ds) ≤ n
  | n, [], _ => by simp [pys, PyData.canLayAll0, PyData.depthAll]
  | n, d :: ds, h => by
    have h' : plain n d = true ∧ plains n ds = true := by simpa [plains] using h
    obtain ⟨a, b⟩ := py_ok n d h'.1
    obtain ⟨a', b'⟩ := pys_ok n ds h'.2
    simp [pys, PyData.canLayAll0, PyData.depthAll, a, a', Nat.max_le, b, b']
end
theorem shaped_of {n : Nat} {d : D} (h : plain n d = true) (hn : n ≤ 64) : SeqAt.shaped (py d) = true := by
  obtain ⟨a, b⟩ := py_ok n d h
  simp [SeqAt.shaped, a]
  omega
mutual
theorem Rep.dp {K : PySem.W.Frag} {F : Fz} {H : Hp} (s : Sits F H) : ∀ (n : Nat) (d : D) {v : V}, Rep F v d → plain n d = true → Dp K H v (py d)
  | _, _, _, .non, _ => .non
  | _, _, _, .bl b, _ => .bl b
  | _, _, _, .int b, _ => .int b
  | _, _, _, .str b, _ => .str b
  | 0, .lst xs, _, .lst h r, p => by simp [plain] at p
  | n + 1, .lst xs, _, .lst h r, p => .lst (.inl (s _ _ h)) (Reps.dp s n xs r (by simpa [plain] using p))
  | 0, .tup xs, _, .tup h r, p => by simp [plain] at p
  | n + 1, .tup xs, _, .tup h r, p => .tup (.inl (s _ _ h)) (Reps.dp s n xs r (by simpa [plain] using p))
  | n, .ty _, _, .ty _, p => by cases n <;> simp [plain] at p
  | n, .dic _, _, .dic _ _, p => by cases n <;> simp [plain] at p
  | n, .ins _ _, _, .ins _ _, p => by cases n <;> simp [plain] at p
  | n, .exc _ _ _ _, _, .exc _ _, p => by cases n <;> simp [plain] at p
  | n, .mem _ _, _, .mem _, p => by cases n <;> simp [plain] at p
theorem Reps.dp {K : PySem.W.Frag} {F : Fz} {H : Hp} (s : Sits F H) : ∀ (n : Nat) (d : List D) {v : List V}, Reps F v d → plains n d = true → DpAll K H v (pys d)
  | _, _, _, .nil, _ => .nil
  | n, x :: xs, _, .cons h r, p => by
    have p' : plain n x = true ∧ plains n xs = true := by simpa [plains] using p
    exact .cons (Rep.dp s n x h p'.1) (Reps.dp s n xs r p'.2)
end
theorem View.dp {K : PySem.W.Frag} {F : Fz} {H : Hp} (s : Sits F H) {n : Nat} {d : D} {v : V} (h : View F H v d) (p : plain n d = true) : Dp K H v (py d) := by
  rcases h with h | ⟨a, rfl, _, h⟩
  · exact h.dp s n d p
  · match d, h with
    | .lst xs, ⟨vs, e, r⟩ =>
      cases n with
      | zero => simp [plain] at p
      | succ n => exact .lst (.of e) (r.dp s n xs (by simpa [plain] using p))
    | .dic xs, _ => cases n <;> simp [plain] at p
    | .ins _ _, _ => cases n <;> simp [plain] at p
/-- == of plain data -/
def gEqP (neg : Bool) : D → D → D → Prop := fun a b d => plain 64 a = true ∧ plain 64 b = true ∧ d = .bl (if neg then !PyData.eqv (py a) (py b) else PyData.eqv (py a) (py b))
theorem od_eqD {K : PySem.W.Frag} : OpD (rEqD K) (gEqP false) := fun E F H σ ρ x y d1 d2 d Q S v1 v2 ⟨p1, p2, e⟩ k => by
  subst e
  exact ⟨_, _, v1.dp S.sits p1, v2.dp S.sits p2, shaped_of p1 (Nat.le_refl _), shaped_of p2 (Nat.le_refl _), k _ H F S .refl (.bl _)⟩
theorem od_neD {K : PySem.W.Frag} : OpD (rNeD K) (gEqP true) := fun E F H σ ρ x y d1 d2 d Q S v1 v2 ⟨p1, p2, e⟩ k => by
  subst e
  exact ⟨_, _, v1.dp S.sits p1, v2.dp S.sits p2, shaped_of p1 (Nat.le_refl _), shaped_of p2 (Nat.le_refl _), k _ H F S .refl (.bl _)⟩
/-- of texts whatever stands in them -/
def gEqS (neg : Bool) : D → D → D → Prop := fun a b d => ∃ i j, a = .str i ∧ b = .str j ∧ d = .bl (if neg then !decide (i = j) else decide (i = j))
theorem decV {i j : Str} : decide (V.str i = V.str j) = decide (i = j) := by
  by_cases e : i = j
  · subst e; simp
  · have : ¬ V.str i = V.str j := fun z => e (V.str.inj z)
    rw [decide_eq_false e, decide_eq_false this]
theorem od_eqS : OpD rEq (gEqS false) := fun E F H σ ρ x y d1 d2 d Q S v1 v2 ⟨i, j, e1, e2, e3⟩ k => by
  subst e1; subst e2; subst e3
  rw [v1.str, v2.str]
  refine ⟨rfl, ?_⟩
  rw [decV]
  exact k _ H F S .refl (.bl _)
theorem od_neS : OpD rNe (gEqS true) := fun E F H σ ρ x y d1 d2 d Q S v1 v2 ⟨i, j, e1, e2, e3⟩ k => by
  subst e1; subst e2; subst e3
  rw [v1.str, v2.str]
  refine ⟨rfl, ?_⟩
  rw [decV]
  exact k _ H F S .refl (.bl _)
/-- is None -/
def D.isNon : D → Bool
  | .non => true
  | _ => false
def gIsN (neg : Bool) : D → D → D → Prop := fun a b d => b = .non ∧ d = .bl (if neg then !a.isNon else a.isNon)
theorem View.isN {F : Fz} {H : Hp} {v : V} {a : D} (h : View F H v a) : decide (v = .non) = a.isNon := by
  rcases h with h | ⟨p, e, _, h⟩
  · cases h <;> simp [D.isNon]
  · subst e
    match a, h with
    | .lst _, _ => simp [D.isNon]
    | .dic _, _ => simp [D.isNon]
    | .ins _ _, _ => simp [D.isNon]
theorem od_isN : OpD (fun x y H (Q : VK) => y = .non ∧ Q (.bl (decide (x = .non))) H) (gIsN false) := fun E F H σ ρ x y d1 d2 d Q S v1 v2 ⟨e1, e3⟩ k => by
  subst e1; subst e3
  refine ⟨v2.non, ?_⟩
  rw [v1.isN]
  exact k _ H F S .refl (.bl _)
theorem od_notN : OpD (fun x y H (Q : VK) => y = .non ∧ Q (.bl (!decide (x = .non))) H) (gIsN true) := fun E F H σ ρ x y d1 d2 d Q S v1 v2 ⟨e1, e3⟩ k => by
  subst e1; subst e3
  refine ⟨v2.non, ?_⟩
  rw [v1.isN]
  exact k _ H F S .refl (.bl _)
/-! order: ints, texts -/
def gCmpI (p : Int → Int → Bool) : D → D → D → Prop := gI (fun _ _ => True) fun i j => .bl (p i j)
theorem od_cmpI {p : Int → Int → Bool} : OpD (rI0 fun i j => V.bl (p i j)) (gCmpI p) := od_I0 fun _ i j => .bl _
def gLt : D → D → D → Prop := fun a b d => gCmpI (fun i j => decide (i < j)) a b d ∨ gS (fun _ _ => True) (fun i j => .bl (decide (i.cps.toList < j.cps.toList))) a b d
section
variable {X : Cx}
theorem op_ltAll : OpR X (compareOp .Lt) (fun x y H Q => (rI0 fun i j => V.bl (decide (i < j))) x y H Q ∨ (fun x y H (Q : VK) => ∃ i j, x = .str i ∧ y = .str j ∧ Q (.bl (decide (i.cps.toList < j.cps.toList))) H) x y H Q) := op_lt.or op_lt_str
theorem od_lt : OpD (fun x y H Q => (rI0 fun i j => V.bl (decide (i < j))) x y H Q ∨ (fun x y H (Q : VK) => ∃ i j, x = .str i ∧ y = .str j ∧ Q (.bl (decide (i.cps.toList < j.cps.toList))) H) x y H Q) gLt :=
  od_cmpI.or fun E F H σ ρ x y d1 d2 d Q S v1 v2 ⟨i, j, e1, e2, c, e3⟩ k => by
    subst e1; subst e2; subst e3
    exact ⟨i, j, v1.str, v2.str, k _ H F S .refl (.bl _)⟩
def gGt : D → D → D → Prop := fun a b d => gCmpI (fun i j => decide (j < i)) a b d ∨ gS (fun _ _ => True) (fun i j => .bl (decide (j.cps.toList < i.cps.toList))) a b d
theorem op_gtAll : OpR X (compareOp .Gt) (fun x y H Q => (rI0 fun i j => V.bl (decide (j < i))) x y H Q ∨ (fun x y H (Q : VK) => ∃ i j, x = .str i ∧ y = .str j ∧ Q (.bl (decide (j.cps.toList < i.cps.toList))) H) x y H Q) := op_gt.or op_gt_str
theorem od_gt : OpD (fun x y H Q => (rI0 fun i j => V.bl (decide (j < i))) x y H Q ∨ (fun x y H (Q : VK) => ∃ i j, x = .str i ∧ y = .str j ∧ Q (.bl (decide (j.cps.toList < i.cps.toList))) H) x y H Q) gGt :=
  od_cmpI.or fun E F H σ ρ x y d1 d2 d Q S v1 v2 ⟨i, j, e1, e2, c, e3⟩ k => by
    subst e1; subst e2; subst e3
    exact ⟨i, j, v1.str, v2.str, k _ H F S .refl (.bl _)⟩
end
@[simp] theorem gLt_int {i j : Int} {d : D} : gLt (.int i) (.int j) d ↔ d = .bl (decide (i < j)) := by simp [gLt, gCmpI, gI, gS]
@[simp] theorem gLt_str {i j : Str} {d : D} : gLt (.str i) (.str j) d ↔ d = .bl (decide (i.cps.toList < j.cps.toList)) := by simp [gLt, gCmpI, gI, gS]
@[simp] theorem gGt_int {i j : Int} {d : D} : gGt (.int i) (.int j) d ↔ d = .bl (decide (j < i)) := by simp [gGt, gCmpI, gI, gS]
@[simp] theorem gGt_str {i j : Str} {d : D} : gGt (.str i) (.str j) d ↔ d = .bl (decide (j.cps.toList < i.cps.toList)) := by simp [gGt, gCmpI, gI, gS]
end DL
/-! DL7: membership, items, slices, displays, built-ins. -/
namespace DL
open PySem L2
/-! ### in, not in -/
def flatD : D → Bool
  | .non => true | .bl _ => true | .int _ => true | .str _ => true
  | _ => false
def vOf : D → V
  | .bl b => .bl b | .int i => .int i | .str x => .str x
  | _ => .non
theorem Rep.vOf {F : Fz} {v : V} {d : D} (h : Rep F v d) (f : flatD d = true) : v = vOf d ∧ flatV v = true := by
  cases h <;> first | exact ⟨rfl, rfl⟩ | cases f
theorem Reps.vOf {F : Fz} : ∀ {vs : List V} {ds : List D}, Reps F vs ds → ds.all flatD = true → vs = ds.map vOf ∧ vs.all flatV = true
  | _, _, .nil, _ => ⟨rfl, rfl⟩
  | _, _, .cons h r, f => by
    simp only [List.all_cons, Bool.and_eq_true] at f
    obtain ⟨a, b⟩ := h.vOf f.1
    obtain ⟨c, d⟩ := r.vOf f.2
    rw [a, c]
    refine ⟨rfl, ?_⟩
    rw [← a, ← c, List.all_cons, b, d]
    rfl
theorem View.flat {F : Fz} {H : Hp} {v : V} {d : D} (h : View F H v d) (f : flatD d = true) : v = vOf d ∧ flatV v = true := by
  rcases h with h | ⟨p, e, _, h⟩
  · exact h.vOf f
  · match d, h with
    | .lst _, _ => cases f
    | .dic _, _ => cases f
    | .ins _ _, _ => cases f
def inD (a : D) (ds : List D) : Bool := inV (vOf a) (ds.map vOf)
def gIn (neg : Bool) : D → D → D → Prop := fun a b d => flatD a = true ∧ ∃ ds, (b = .lst ds ∨ b = .tup ds) ∧ ds.all flatD = true ∧ d = .bl (if neg then !inD a ds else inD a ds)
theorem od_in {K : PySem.W.Frag} (neg : Bool) : OpD (rIn K neg) (gIn neg) := fun E F H σ ρ x y d1 d2 d Q S v1 v2 ⟨f1, ds, e1, f2, e3⟩ k => by
  subst e3
  obtain ⟨x1, x2⟩ := v1.flat f1
  rcases e1 with e1 | e1
  · subst e1
    obtain ⟨p, vs, e, hp, r⟩ := v2.lst S.sits
    obtain ⟨y1, y2⟩ := r.vOf f2
    refine ⟨p, vs, e, .inl (.inl hp), x2, y2, ?_⟩
    rw [x1, y1]
    exact k _ H F S .refl (.bl _)
  · subst e1
    obtain ⟨p, vs, e, hp, r⟩ := v2.tup S.sits
    obtain ⟨y1, y2⟩ := r.vOf f2
    refine ⟨p, vs, e, .inr (.inl hp), x2, y2, ?_⟩
    rw [x1, y1]
    exact k _ H F S .refl (.bl _)
def gInS (neg : Bool) : D → D → D → Prop := fun a b d => ∃ c z, a = .str ⟨#[c]⟩ ∧ b = .str z ∧ d = .bl (if neg then !decide (c ∈ z.cps.toList) else decide (c ∈ z.cps.toList))
theorem od_inS : OpD (fun x y H (Q : VK) => ∃ (c : Nat) (z : Str), x = .str ⟨#[c]⟩ ∧ y = .str z ∧ Q (.bl (decide (c ∈ z.cps.toList))) H) (gInS false) := fun E F H σ ρ x y d1 d2 d Q S v1 v2 ⟨c, z, e1, e2, e3⟩ k => by
  subst e1; subst e2; subst e3
  exact ⟨c, z, v1.str, v2.str, k _ H F S .refl (.bl _)⟩
theorem inV_str (x : Str) : ∀ xs : List Str, inV (.str x) ((xs.map D.str).map vOf) = decide (x ∈ xs)
  | [] => by simp [inV]
  | y :: ys => by
    have ih := inV_str x ys
    unfold inV at ih ⊢
    rw [List.map_cons, List.map_cons, List.any_cons, ih]
    show (eqV (.str y) (.str x) || _) = _
    have e : eqV (.str y) (.str x) = (y == x) := rfl
    rw [e]
    by_cases h : x = y
    · subst h; simp
    · have h' : ¬ y = x := fun z => h z.symm
      simp [h, h']
@[simp] theorem inD_str (x : Str) (xs : List Str) : inD (.str x) (xs.map D.str) = decide (x ∈ xs) := inV_str x xs
/-! ### items -/
theorem Reps.atI {F : Fz} {vs : List V} {ds : List D} {i : Int} {d : D} (r : Reps F vs ds) (h : atI ds i = some d) : ∃ v, atI vs i = some v ∧ Rep F v d := by
  unfold L2.atI at h ⊢
  rw [r.length]
  cases e : ixN ds.length i with
  | none => rw [e] at h; cases h
  | some j =>
    rw [e] at h
    exact r.get h
def gIx : D → D → D → Prop := fun a b d => (∃ ds i, a = .lst ds ∧ b = .int i ∧ L2.atI ds i = some d) ∨ (∃ ds i, a = .tup ds ∧ b = .int i ∧ L2.atI ds i = some d) ∨ ∃ z i c, a = .str z ∧ b = .int i ∧ z.length ≤ sizeLine ∧ L2.atI z.cps.toList i = some c ∧ d = .str ⟨#[c]⟩
section
variable {X : Cx} {E : En} {a b : Expr} {pos : Pos} {ma mb : ME}
theorem ix_all : IxR X (fun x y H Q => rIxL X.K x y H Q ∨ (rIxT X.K x y H Q ∨ rIxS x y H Q)) := ix_list.or (ix_tup.or ix_str)
theorem od_ix {K : PySem.W.Frag} : OpD (fun x y H Q => rIxL K x y H Q ∨ (rIxT K x y H Q ∨ rIxS x y H Q)) gIx := fun E F H σ ρ x y d1 d2 d Q S v1 v2 g k => by
  rcases g with ⟨ds, i, e1, e2, h⟩ | ⟨ds, i, e1, e2, h⟩ | ⟨z, i, c, e1, e2, h1, h2, e3⟩
  · subst e1; subst e2
    obtain ⟨p, vs, e, hp, r⟩ := v1.lst S.sits
    obtain ⟨v, hv, rv⟩ := r.atI h
    exact .inl ⟨p, vs, i, v, e, v2.int, .inl hp, hv, k v H F S .refl rv⟩
  · subst e1; subst e2
    obtain ⟨p, vs, e, hp, r⟩ := v1.tup S.sits
    obtain ⟨v, hv, rv⟩ := r.atI h
    exact .inr (.inl ⟨p, vs, i, v, e, v2.int, .inl hp, hv, k v H F S .refl rv⟩)
  · subst e1; subst e2; subst e3
    exact .inr (.inr ⟨z, i, c, v1.str, v2.int, h1, h2, k _ H F S .refl (.str _)⟩)
theorem de_ix (ha : DE X E a ma) (hb : DE X E b mb) (hs : PlainIx b := by first | exact fun _ _ => rfl) : DE X E (.Subscript a b pos) (mOp gIx ma mb) := PE.to (pe_ix ix_all ha hb hs) (op_to od_ix)
/-! ### slices -/
abbrev MP := DEnv → (Option Int → DEnv → Prop) → Prop
def mPNone : MP := fun ρ P => P none ρ
def mPart (m : ME) : MP := fun ρ P => m ρ fun r ρ1 => ∃ i, r.get ρ1 = some (.int i) ∧ P (some i) ρ1
def tLP (E : En) (m : MP) : TO := fun σ H Q => ∃ F ρ P, SR E F H σ ρ ∧ m ρ P ∧ ∀ o ρ' H' F', P o ρ' → SR E F' H' σ ρ' → Le F F' → Q o H'
abbrev DP (X : Cx) (E : En) (e : Option Expr) (m : MP) : Prop := PO X e (tLP E m)
theorem PO.to {X : Cx} {e : Option Expr} {t u : TO} (h : PO X e t) (f : ∀ σ H Q, u σ H Q → t σ H Q) : PO X e u := ⟨fun pins s σ H Q I q => h.run pins s σ H Q I (f σ H Q q)⟩
theorem dp_none : DP X E none mPNone := PO.to po_none fun σ H Q ⟨F, ρ, P, S, hp, k⟩ => k none ρ H F hp S .refl
theorem dp_some (h : DE X E a ma) : DP X E (some a) (mPart ma) := PO.to (po_some h) fun σ H Q ⟨F, ρ, P, S, hm, k⟩ =>
  ⟨F, ρ, _, S, hm, fun r ρ1 v H1 F1 ⟨i, g, hp⟩ S1 l1 d1 => ⟨i, (S1.view d1 g).int, k _ _ H1 F1 hp S1 l1⟩⟩
def cutD (xs : List D) (lo hi : Option Int) : List D := (xs.drop (HT.sIx xs.length 0 lo)).take (HT.sIx xs.length xs.length hi - HT.sIx xs.length 0 lo)
theorem Reps.cut {F : Fz} {vs : List V} {ds : List D} (r : Reps F vs ds) (lo hi : Option Int) : Reps F (cutV vs lo hi) (cutD ds lo hi) := by
  unfold cutV cutD
  rw [r.length]
  exact (r.drop _).take _
def gSl : D → Option Int → Option Int → D → Prop := fun a lo hi d => (∃ ds, a = .lst ds ∧ d = .lst (cutD ds lo hi)) ∨ (∃ z, a = .str z ∧ z.length ≤ sizeLine ∧ d = .str (cutS z lo hi)) ∨ (∃ ds, a = .tup ds ∧ d = .tup (cutD ds lo hi))
def mSl (ma : ME) (ml mh : MP) : ME := fun ρ P => ma ρ fun r ρ1 => ml ρ1 fun lo ρ2 => mh ρ2 fun hi ρ3 => ∃ a d, r.get ρ3 = some a ∧ gSl a lo hi d ∧ P (.val d) ρ3
theorem sl_all : SlR X (fun x lo hi H Q => rSlL X.K x lo hi H Q ∨ (rSlS x lo hi H Q ∨ rSlA X.K x lo hi H Q)) := sl_list.or (sl_str.or sl_tupA)
theorem de_sl {lo hi : Option Expr} {ml mh : MP} {p2 : Pos} (ha : DE X E a ma) (hl : DP X E lo ml) (hh : DP X E hi mh) : DE X E (.Subscript a (.Slice lo hi none p2) pos) (mSl ma ml mh) := PE.to (pe_slice sl_all ha hl hh) fun σ H Q ⟨F, ρ, P, S, hm, k⟩ =>
  ⟨F, ρ, _, S, hm, fun r ρ1 v H1 F1 hn S1 l1 d1 => ⟨F1, ρ1, _, S1, hn, fun lo ρ2 H2 F2 hq S2 l2 => ⟨F2, ρ2, _, S2, hq, fun hi ρ3 H3 F3 ⟨a, d, g, gs, hp⟩ S3 l3 => by
    have V := S3.view (d1.mono (l2.trans l3)) g
    have l := (l1.trans l2).trans l3
    rcases gs with ⟨ds, e1, e2⟩ | ⟨z, e1, hz, e2⟩ | ⟨ds, e1, e2⟩
    · subst e1; subst e2
      obtain ⟨p, vs, e, hp', rr⟩ := V.lst S3.sits
      refine .inl ⟨p, vs, e, .inl hp', fun q hq => ?_⟩
      obtain ⟨S', N⟩ := S3.newLst hq (rr.cut lo hi)
      obtain ⟨F2, l2, S2, r⟩ := S'.freeze N
      exact k _ _ _ _ F2 hp S2 (l.trans l2) r
    · subst e1; subst e2
      exact .inr (.inl ⟨z, V.str, hz, k _ _ _ H3 F3 hp S3 l (.str _)⟩)
    · subst e1; subst e2
      have V' : Rep F3 v (.tup ds) := by
        rcases V with z | ⟨_, _, _, z⟩
        · exact z
        · exact z.elim
      obtain ⟨p, vs, e, hp', rr⟩ := V.tup S3.sits
      refine .inr (.inr ⟨p, vs, e, .inl hp', fun ⟨c1, c2⟩ => ?_, fun _ q hq => ?_⟩)
      · have e2 : cutD ds lo hi = ds := by
          unfold cutD
          rw [← rr.length, c1, c2, List.drop_zero, rr.length]
          exact List.take_length
        have W : Rep F3 (.ref p) (.tup (cutD ds lo hi)) := by rw [e2, ← e]; exact V'
        exact k _ _ _ H3 F3 hp S3 l W
      · obtain ⟨F', S', l', r'⟩ := S3.newTup hq (rr.cut lo hi)
        exact k _ _ _ _ F' hp S' (l.trans l') r'⟩⟩⟩
/-! ### displays -/
def escs (ρ : DEnv) : List Rf → Option (List D × DEnv)
  | [] => some ([], ρ)
  | r :: rs => (esc ρ r).bind fun p => (escs p.2 rs).map fun q => (p.1 :: q.1, q.2)
theorem SR.escL {H : Hp} {σ : St} : ∀ {rs : List Rf} {vs : List V} {ρ ρ' : DEnv} {ds : List D} {F : Fz}, SR E F H σ ρ → VDens σ F vs rs → escs ρ rs = some (ds, ρ') → ∃ F', Le F F' ∧ SR E F' H σ ρ' ∧ Reps F' vs ds
  | [], [], ρ, ρ', ds, F, S, _, e => by
    have e' : (([] : List D), ρ) = (ds, ρ') := Option.some.inj e
    cases e'
    exact ⟨F, .refl, S, .nil⟩
  | r :: rs, v :: vs, ρ, ρ', ds, F, S, ⟨h, hs⟩, e => by
    unfold DL.escs at e
    cases e1 : DL.esc ρ r with
    | none => rw [e1] at e; cases e
    | some p =>
      obtain ⟨d, ρ1⟩ := p
      rw [e1] at e
      cases e2 : DL.escs ρ1 rs with
      | none => simp [e2] at e
      | some q =>
        obtain ⟨ds', ρ2⟩ := q
        simp [e2] at e
        obtain ⟨rfl, rfl⟩ := e
        obtain ⟨F1, l1, S1, r1⟩ := S.esc h e1
        obtain ⟨F2, l2, S2, r2⟩ := SR.escL S1 (hs.mono l1) e2
        exact ⟨F2, l1.trans l2, S2, .cons (r1.mono l2) r2⟩
def mLst (m : MA) : MO := fun ρ P => m ρ fun rs ρ1 => ∃ ds ρ2, escs ρ1 rs = some (ds, ρ2) ∧ ds.length ≤ sizeLine ∧ P (.lst ds) ρ2
theorem do_lst {es : List Expr} {m : MA} (h : DA X E es m) : DO X E (.List es pos) (mLst m) := PE.to (pe_lst h) fun σ H Q ⟨F, ρ, P, S, hm, k⟩ =>
  ⟨F, ρ, _, S, hm, fun rs ρ1 vs H1 F1 ⟨ds, ρ2, he, hz, hp⟩ S1 l1 d1 => by
    obtain ⟨F2, l2, S2, r2⟩ := SR.escL S1 d1 he
    refine ⟨by rw [r2.length]; exact hz, fun p hn => ?_⟩
    obtain ⟨S3, N⟩ := S2.newLst hn r2
    exact k _ _ p _ F2 hp S3 (l1.trans l2) N⟩
def mTup (m : MA) : ME := fun ρ P => m ρ fun rs ρ1 => ∃ ds ρ2, escs ρ1 rs = some (ds, ρ2) ∧ ds.length ≤ sizeLine ∧ P (.val (.tup ds)) ρ2
theorem de_tup {es : List Expr} {m : MA} {x1} (h : DA X E es m) : DE X E (.Tuple es x1 pos) (mTup m) := PE.to (pe_tup h) fun σ H Q ⟨F, ρ, P, S, hm, k⟩ =>
  ⟨F, ρ, _, S, hm, fun rs ρ1 vs H1 F1 ⟨ds, ρ2, he, hz, hp⟩ S1 l1 d1 => by
    obtain ⟨F2, l2, S2, r2⟩ := SR.escL S1 d1 he
    refine ⟨by rw [r2.length]; exact hz, fun p hn => ?_⟩
    obtain ⟨F3, S3, l3, r3⟩ := S2.newTup hn r2
    exact k _ _ _ _ F3 hp S3 ((l1.trans l2).trans l3) r3⟩
/-! ### built-ins by values -/
def Views (F : Fz) (H : Hp) : List V → List D → Prop
  | [], [] => True
  | v :: vs, d :: ds => View F H v d ∧ Views F H vs ds
  | _, _ => False
def gets (ρ : DEnv) : List Rf → Option (List D)
  | [] => some []
  | r :: rs => (r.get ρ).bind fun d => (gets ρ rs).map fun ds => d :: ds
theorem SR.views {F : Fz} {H : Hp} {σ : St} {ρ : DEnv} (S : SR E F H σ ρ) : ∀ {rs : List Rf} {vs : List V} {ds : List D}, VDens σ F vs rs → gets ρ rs = some ds → Views F H vs ds
  | [], [], ds, _, e => by
    have : [] = ds := Option.some.inj e
    subst this
    trivial
  | r :: rs, v :: vs, ds, ⟨h, hs⟩, e => by
    unfold gets at e
    cases e1 : r.get ρ with
    | none => rw [e1] at e; cases e
    | some d =>
      cases e2 : gets ρ rs with
      | none => simp [e1, e2] at e
      | some ds' =>
        simp [e1, e2] at e
        subst e
        exact ⟨S.view h e1, S.views hs e2⟩
def CaD (r : List V → Hp → VK → Prop) (g : List D → D → Prop) : Prop := ∀ (E : En) (F : Fz) (H : Hp) (σ : St) (ρ : DEnv) (vs : List V) (ds : List D) (d : D) (Q : VK), SR E F H σ ρ → Views F H vs ds → g ds d →
  (∀ v H' F', SR E F' H' σ ρ → Le F F' → Rep F' v d → Q v H') → r vs H Q
def CaO (r : List V → Hp → VK → Prop) (g : List D → D → Prop) : Prop := ∀ (E : En) (F : Fz) (H : Hp) (σ : St) (ρ : DEnv) (vs : List V) (ds : List D) (d : D) (Q : VK), SR E F H σ ρ → Views F H vs ds → g ds d →
  (∀ p H' F', SR E F' H' σ ρ → Le F F' → NewAt E F' H' σ ρ p d → Q (.ref p) H') → r vs H Q
def mCa (g : List D → D → Prop) (m : MA) : ME := fun ρ P => m ρ fun rs ρ1 => ∃ ds d, gets ρ1 rs = some ds ∧ g ds d ∧ P (.val d) ρ1
def mCaO (g : List D → D → Prop) (m : MA) : MO := fun ρ P => m ρ fun rs ρ1 => ∃ ds d, gets ρ1 rs = some ds ∧ g ds d ∧ P d ρ1
theorem ca_to {r : List V → Hp → VK → Prop} {g : List D → D → Prop} {m : MA} (o : CaD r g) : ∀ σ H Q, tL E (mCa g m) σ H Q → tCB r (tLA E m) σ H Q := fun σ H Q ⟨F, ρ, P, S, hm, k⟩ =>
  ⟨F, ρ, _, S, hm, fun rs ρ1 vs H1 F1 ⟨ds, d, g1, g2, hp⟩ S1 l1 d1 => o E F1 H1 σ ρ1 vs ds d Q S1 (S1.views d1 g1) g2 fun v H' F' S' l' r' => k _ _ _ _ F' hp S' (l1.trans l') r'⟩
theorem caO_to {r : List V → Hp → VK → Prop} {g : List D → D → Prop} {m : MA} (o : CaO r g) : ∀ σ H Q, tLO E (mCaO g m) σ H Q → tCB r (tLA E m) σ H Q := fun σ H Q ⟨F, ρ, P, S, hm, k⟩ =>
  ⟨F, ρ, _, S, hm, fun rs ρ1 vs H1 F1 ⟨ds, d, g1, g2, hp⟩ S1 l1 d1 => o E F1 H1 σ ρ1 vs ds d Q S1 (S1.views d1 g1) g2 fun v H' F' S' l' r' => k _ _ _ _ F' hp S' (l1.trans l') r'⟩
variable {r : List V → Hp → VK → Prop} {g : List D → D → Prop} {m : MA} {x : Str} {p : Pos} {e : Expr} {es : List Expr}
theorem de_b {id : String} (hc : CallR X (.builtin id) r) (o : CaD r g) (hg : Gl X x) (hm : X.mg x = none) (hv : bootBuiltins x = some (.builtin id)) (ha : DA X E (e :: es) m) (hn : x ≠ "__name__" := by decide) (hdb : (x == ("__debug__" : Str)) = false := by decide)
    (he : starEach (e :: es) X.env = (false, eval e X.env) :: starEach es X.env := by rfl) (hpl : (backTo pos (starEach es X.env)).any (·.1) = false := by rfl) : DE X E (.Call (.Name x p) (e :: es) [] pos) (mCa g m) := PE.to (pe_callB hc hg hm hv ha hn hdb he hpl) (ca_to o)
theorem do_b {id : String} (hc : CallR X (.builtin id) r) (o : CaO r g) (hg : Gl X x) (hm : X.mg x = none) (hv : bootBuiltins x = some (.builtin id)) (ha : DA X E (e :: es) m) (hn : x ≠ "__name__" := by decide) (hdb : (x == ("__debug__" : Str)) = false := by decide)
    (he : starEach (e :: es) X.env = (false, eval e X.env) :: starEach es X.env := by rfl) (hpl : (backTo pos (starEach es X.env)).any (·.1) = false := by rfl) : DO X E (.Call (.Name x p) (e :: es) [] pos) (mCaO g m) := PE.to (pe_callB hc hg hm hv ha hn hdb he hpl) (caO_to o)
end
end DL
/-! DL8: loops, comprehensions. -/
namespace DL
open PySem L2
abbrev MI := DEnv → ((DEnv → Prop) → List D → DEnv → Prop) → Prop
/-- the iterator J yields ds, as long as ok holds of the slots -/
def Serves (E : En) (F0 : Fz) (J : It) (ok : DEnv → Prop) (ds : List D) : Prop := ∀ (i : Nat) (F : Fz) (H : Hp) (σ : St) (ρ : DEnv), SR E F H σ ρ → Le F0 F → ok ρ →
  (∀ d, ds[i]? = some d → J.go i H ∧ ∀ x H', J.yld i H x H' → ∃ F', SR E F' H' σ ρ ∧ Le F F' ∧ Rep F' x d ∧ (∀ a o, H a = some o → H' a = some o) ∧ ∀ a fo, F' a = some fo → F a = some fo ∨ H a = none) ∧ (ds.length ≤ i → J.stop i H)
theorem SR.newTupN {E : En} {F : Fz} {H : Hp} {σ : St} {ρ : DEnv} {vs : List V} {ds : List D} {p : Addr} (S : SR E F H σ ρ) (h : H p = none) (r : Reps F vs ds) :
    ∃ F', SR E F' (upd H p (.tup vs)) σ ρ ∧ Le F F' ∧ Rep F' (.ref p) (.tup ds) ∧ ∀ a fo, F' a = some fo → F a = some fo ∨ H a = none := by
  obtain ⟨S', l⟩ := S.layF (o := .tup vs) h
  refine ⟨_, S', l, .tup updF_same (r.mono l), fun a fo e => ?_⟩
  by_cases q : a = p
  · exact .inr (by rw [q]; exact h)
  · rw [updF_ne q] at e
    exact .inl e
def tLI (E : En) (m : MI) : TI := fun σ H R => ∃ F ρ P, SR E F H σ ρ ∧ m ρ P ∧ ∀ ok ds ρ' J H' F', P ok ds ρ' → SR E F' H' σ ρ' → Le F F' → Serves E F' J ok ds → R J H'
abbrev DI (X : Cx) (E : En) (tg e : Expr) (m : MI) : Prop := PI X tg e (tLI E m)
section
variable {X : Cx} {E : En} {tg e iter elt : Expr} {pos : Pos} {me : ME}
def iAny (K : PySem.W.Frag) (te : TE) : TI := fun σ H R => te σ H fun x H1 => (∃ a, x = .ref a ∧ (∃ xs, SqL K H1 a xs) ∧ R (Itl K a) H1) ∨ (∃ a, x = .ref a ∧ (∃ xs, SqT K H1 a xs) ∧ R (Itt K a) H1) ∨ ∃ z, x = .str z ∧ R (Its z) H1
theorem pi_any {te : TE} (h : PE X e te) : PI X tg e (iAny X.K te) := by
  refine ⟨fun pins s σ H R I hw => ?_⟩
  refine thn (h.run pins s σ H _ I hw) fun v s1 ⟨x, H1, I1, r1, q1⟩ => ?_
  rcases q1 with ⟨a, ex, ⟨xs, hq⟩, q⟩ | ⟨a, ex, ⟨xs, hq⟩, q⟩ | ⟨z, ex, q⟩
  · subst ex
    cases r1
    obtain ⟨its, rv, p, hz⟩ := I1.list hq
    exact wpAny_pyIter_list p.isList (pi_one (tk := s1.toks) I1 _ (turn_list a _) ⟨_, Heap.get?_push_size _ rfl, rfl, rfl⟩ q)
  · subst ex
    cases r1
    obtain ⟨its, rv, p, hz⟩ := I1.tuple hq
    exact wpAny_pyIter_tuple (show s1.heap.IsTuple a its.toArray from p) (pi_one (tk := s1.toks) I1 _ (turn_tuple a _) ⟨_, Heap.get?_push_size _ rfl, rfl, rfl⟩ q)
  · subst ex
    obtain ⟨t, rfl⟩ := r1
    cases ha : z.cps.all (· < 128)
    · exact wpAny_pyIter_wide ha (pi_one (tk := s1.toks) I1 _ (turn_str _ z t "str_iterator" (.inr rfl)) ⟨_, Heap.get?_push_size _ rfl, rfl, rfl⟩ q)
    · exact wpAny_pyIter_ascii ha (pi_one (tk := s1.toks) I1 _ (turn_str _ z t "str_ascii_iterator" (.inl rfl)) ⟨_, Heap.get?_push_size _ rfl, rfl, rfl⟩ q)
/-- the signs of a text, each a text -/
def signs (z : Str) : List D := z.cps.toList.map fun c => .str ⟨#[c]⟩
/-- what an iterable yields; an owned list is frozen, a borrowed one is to stay as it is -/
def itemsOf (ρ : DEnv) (r : Rf) (ok : DEnv → Prop) (ds : List D) (ρ' : DEnv) : Prop :=
  (∃ d, esc ρ r = some (d, ρ') ∧ (d = .lst ds ∨ d = .tup ds ∨ ∃ z, d = .str z ∧ ds = signs z) ∧ ok = fun _ => True) ∨
  (∃ i : Nat, r = .sl i ∧ ρ[i]? = some (some (.bw (.lst ds))) ∧ ρ' = ρ ∧ ok = fun ρ'' => ρ''[i]? = some (some (.bw (.lst ds))))
def mIter (m : ME) : MI := fun ρ P => m ρ fun r ρ1 => ∃ ok ds ρ2, itemsOf ρ1 r ok ds ρ2 ∧ P ok ds ρ2
theorem serves_lst {K : PySem.W.Frag} {F0 : Fz} {ok : DEnv → Prop} {a : Addr} {vs : List V} {ds : List D} (hF : F0 a = some (.hard (.lst vs))) (r : Reps F0 vs ds) : Serves E F0 (Itl K a) ok ds := fun i F H σ ρ S l _ => by
  have q : SqL K H a vs := .inl (S.hard (l _ _ hF))
  refine ⟨fun d hd => ?_, fun hl => ⟨vs, q, by rw [r.length]; exact hl⟩⟩
  obtain ⟨v, hv, rv⟩ := r.get hd
  refine ⟨⟨vs, v, q, hv⟩, fun x H' ⟨e, y⟩ => ?_⟩
  subst e
  have := y vs q
  rw [hv] at this
  cases this
  exact ⟨F, S, .refl, rv.mono l, fun _ _ z => z, fun _ _ z => .inl z⟩
theorem serves_tup {K : PySem.W.Frag} {F0 : Fz} {ok : DEnv → Prop} {a : Addr} {vs : List V} {ds : List D} (hF : F0 a = some (.hard (.tup vs))) (r : Reps F0 vs ds) : Serves E F0 (Itt K a) ok ds := fun i F H σ ρ S l _ => by
  have q : SqT K H a vs := .inl (S.hard (l _ _ hF))
  refine ⟨fun d hd => ?_, fun hl => ⟨vs, q, by rw [r.length]; exact hl⟩⟩
  obtain ⟨v, hv, rv⟩ := r.get hd
  refine ⟨⟨vs, v, q, hv⟩, fun x H' ⟨e, y⟩ => ?_⟩
  subst e
  have := y vs q
  rw [hv] at this
  cases this
  exact ⟨F, S, .refl, rv.mono l, fun _ _ z => z, fun _ _ z => .inl z⟩
theorem serves_str {F0 : Fz} {ok : DEnv → Prop} {z : Str} : Serves E F0 (Its z) ok (signs z) := fun i F H σ ρ S l _ => by
  unfold signs
  refine ⟨fun d hd => ?_, fun hl => (by simpa using hl : z.cps.size ≤ i)⟩
  rw [List.getElem?_map] at hd
  cases e : z.cps.toList[i]? with
  | none => rw [e] at hd; cases hd
  | some c =>
    rw [e] at hd
    have hd' : D.str ⟨#[c]⟩ = d := Option.some.inj hd
    subst hd'
    have hi : i < z.cps.size := by
      have := (List.getElem?_eq_some_iff.mp e).1
      simpa using this
    refine ⟨hi, fun x H' ⟨e1, c', e2, e3⟩ => ?_⟩
    subst e1; subst e3
    have e4 : z.cps[i]? = some c := by rw [← Array.getElem?_toList]; exact e
    rw [e4] at e2
    cases e2
    exact ⟨F, S, .refl, .str _, fun _ _ z => z, fun _ _ z => .inl z⟩
theorem di_any (h : DE X E e me) : DI X E tg e (mIter me) := PI.to (pi_any h) fun σ H R ⟨F, ρ, P, S, hm, k⟩ =>
  ⟨F, ρ, _, S, hm, fun r ρ1 v H1 F1 ⟨ok, ds, ρ2, hi, hp⟩ S1 l1 d1 => by
    rcases hi with ⟨d, he, hd, hok⟩ | ⟨i, rfl, hb, rfl, hok⟩
    · obtain ⟨F2, l2, S2, r2⟩ := S1.esc d1 he
      rcases hd with rfl | rfl | ⟨z, rfl, rfl⟩
      · cases r2 with
        | lst h r => exact .inl ⟨_, rfl, ⟨_, .inl (S2.hard h)⟩, k ok _ _ _ H1 F2 hp S2 (l1.trans l2) (serves_lst h r)⟩
      · cases r2 with
        | tup h r => exact .inr (.inl ⟨_, rfl, ⟨_, .inl (S2.hard h)⟩, k ok _ _ _ H1 F2 hp S2 (l1.trans l2) (serves_tup h r)⟩)
      · cases r2
        exact .inr (.inr ⟨z, rfl, k ok _ _ _ H1 F2 hp S2 (l1.trans l2) serves_str⟩)
    · subst hok
      obtain ⟨w, hw, p, rfl, hF, vs, hH, rr⟩ := S1.at_ i _ hb
      have d1' : σ[i]? = some (some v) := d1
      rw [hw] at d1'
      cases d1'
      refine .inl ⟨p, rfl, ⟨vs, .of hH⟩, k _ _ _ _ H1 F1 hp S1 l1 fun j F H2 σ2 ρ3 S3 l3 ok3 => ?_⟩
      obtain ⟨w3, hw3, p3, e3, hF3, vs3, hH3, rr3⟩ := S3.at_ i _ ok3
      have pin1 := (S1.pin i _ hb).1
      have pin3 := (S3.pin i _ ok3).1
      rw [pin1, hw, hw3] at pin3
      cases pin3
      cases e3
      have q : SqL X.K H2 p vs3 := .of hH3
      refine ⟨fun d hd => ?_, fun hl => ⟨vs3, q, by rw [rr3.length]; exact hl⟩⟩
      obtain ⟨v, hv, rv⟩ := rr3.get hd
      refine ⟨⟨vs3, v, q, hv⟩, fun x H' ⟨e, y⟩ => ?_⟩
      subst e
      have := y vs3 q
      rw [hv] at this
      cases this
      exact ⟨F, S3, .refl, rv, fun _ _ z => z, fun _ _ z => .inl z⟩⟩
/-! range -/
def rngD (lo : Int) (n : Nat) : List D := (List.range n).map fun (i : Nat) => .int (lo + (i : Int))
theorem serves_rng {F0 : Fz} {ok : DEnv → Prop} {lo : Int} {n : Nat} : Serves E F0 (Itr lo n) ok (rngD lo n) := fun i F H σ ρ S l _ => by
  unfold rngD
  refine ⟨fun d hd => ?_, fun hl => (by simpa using hl : n ≤ i)⟩
  rw [List.getElem?_map] at hd
  cases e : (List.range n)[i]? with
  | none => rw [e] at hd; cases hd
  | some c =>
    rw [e] at hd
    have hd' : D.int (lo + c) = d := Option.some.inj hd
    subst hd'
    obtain ⟨hi, ec⟩ := List.getElem?_eq_some_iff.mp e
    rw [List.getElem_range] at ec
    subst ec
    refine ⟨(by simpa using hi : i < n), fun x H' ⟨e1, e2⟩ => ?_⟩
    subst e1; subst e2
    exact ⟨F, S, .refl, .int _, fun _ _ z => z, fun _ _ z => .inl z⟩
def mRng1 (m : MA) : MI := fun ρ P => m ρ fun rs ρ1 => ∃ j : Int, gets ρ1 rs = some [.int j] ∧ -(2 ^ 62) ≤ j ∧ j < 2 ^ 62 ∧ P (fun _ => True) (rngD 0 j.toNat) ρ1
theorem Views.int1 {F : Fz} {H : Hp} : ∀ {vs : List V} {j : Int}, Views F H vs [.int j] → vs = [.int j]
  | [v], j, ⟨h, _⟩ => by rw [h.int]
theorem Views.int2 {F : Fz} {H : Hp} : ∀ {vs : List V} {i j : Int}, Views F H vs [.int i, .int j] → vs = [.int i, .int j]
  | [v, w], i, j, ⟨h, h2, _⟩ => by rw [h.int, h2.int]
theorem di_rng1 {a : Expr} {m : MA} {p : Pos} (hg : Gl X "range") (hm : X.mg "range" = none) (ha : DA X E [a] m) (hs : starEach [a] X.env = [(false, eval a X.env)] := by rfl) : DI X E tg (.Call (.Name "range" p) [a] [] pos) (mRng1 m) := PI.to (pi_range1 hg hm ha hs) fun σ H R ⟨F, ρ, P, S, hm, k⟩ =>
  ⟨F, ρ, _, S, hm, fun rs ρ1 vs H1 F1 ⟨j, g, h1, h2, hp⟩ S1 l1 d1 => ⟨j, (S1.views d1 g).int1, h1, h2, k _ _ _ _ H1 F1 hp S1 l1 serves_rng⟩⟩
def mRng2 (m : MA) : MI := fun ρ P => m ρ fun rs ρ1 => ∃ i j : Int, gets ρ1 rs = some [.int i, .int j] ∧ (-(2 ^ 62) ≤ i ∧ i < 2 ^ 62 ∧ -(2 ^ 62) ≤ j ∧ j < 2 ^ 62) ∧ P (fun _ => True) (rngD i (j - i).toNat) ρ1
theorem di_rng2 {a b : Expr} {m : MA} {p : Pos} (hg : Gl X "range") (hm : X.mg "range" = none) (ha : DA X E [a, b] m) (hs : starEach [a, b] X.env = [(false, eval a X.env), (false, eval b X.env)] := by rfl) (hs2 : starEach [b] X.env = [(false, eval b X.env)] := by rfl) :
    DI X E tg (.Call (.Name "range" p) [a, b] [] pos) (mRng2 m) := PI.to (pi_range2 hg hm ha hs hs2) fun σ H R ⟨F, ρ, P, S, hm, k⟩ =>
  ⟨F, ρ, _, S, hm, fun rs ρ1 vs H1 F1 ⟨i, j, g, h, hp⟩ S1 l1 d1 => ⟨i, j, (S1.views d1 g).int2, h, k _ _ _ _ H1 F1 hp S1 l1 serves_rng⟩⟩
/-! enumerate, zip: pairs as new tuples -/
def mEnum (m : MA) : MI := fun ρ P => m ρ fun rs ρ1 => ∃ r ds ρ2, rs = [r] ∧ esc ρ1 r = some (.lst ds, ρ2) ∧ P (fun _ => True) (ds.zipIdx.map fun q => .tup [.int q.2, q.1]) ρ2
theorem di_enum {a : Expr} {m : MA} {p tpos : Pos} {elts : List Expr} {kk : Nat} (hg : Gl X "enumerate") (hm : X.mg "enumerate" = none) (ha : DA X E [a] m) (hs : starEach [a] X.env = [(false, eval a X.env)] := by rfl) :
    DI X E (.Tuple elts kk tpos) (.Call (.Name "enumerate" p) [a] [] pos) (mEnum m) := PI.to (pi_enum hg hm ha hs) fun σ H R ⟨F, ρ, P, S, hm, k⟩ =>
  ⟨F, ρ, _, S, hm, fun rs ρ1 vs H1 F1 ⟨r, ds, ρ2, er, he, hp⟩ S1 l1 d1 => by
    subst er
    match vs, d1 with
    | [v], ⟨dv, _⟩ =>
      obtain ⟨F2, l2, S2, r2⟩ := S1.esc dv he
      cases r2 with
      | lst h rr =>
        rename_i a vs
        refine ⟨a, vs, rfl, .inl (S2.hard h), k _ _ _ _ H1 F2 hp S2 (l1.trans l2) fun i F3 H3 σ3 ρ3 S3 l3 _ => ?_⟩
        have q : SqL X.K H3 a vs := .inl (S3.hard (l3 _ _ h))
        refine ⟨fun d hd => ?_, fun hl => ⟨vs, q, by rw [rr.length]; simpa using hl⟩⟩
        rw [List.getElem?_map, List.getElem?_zipIdx] at hd
        cases e : ds[i]? with
        | none => simp [e] at hd
        | some d0 =>
          simp [e] at hd
          subst hd
          obtain ⟨v0, hv, rv⟩ := rr.get e
          refine ⟨⟨vs, v0, q, hv⟩, fun x H' ⟨T, x0, e1, hT, e2, y⟩ => ?_⟩
          subst e1; subst e2
          have := y vs q
          rw [hv] at this
          cases this
          obtain ⟨F4, S4, l4, r4⟩ := S3.newTupN (ds := [.int (i : Nat), d0]) hT (.cons (.int _) (.cons (rv.mono l3) .nil))
          exact ⟨F4, S4, l4, r4.1, fun a o z => by rw [upd_ne (ne_of_none z hT)]; exact z, r4.2⟩⟩
def mZip (m : MA) : MI := fun ρ P => m ρ fun rs ρ1 => ∃ r1 r2 xs ys ρ2 ρ3, rs = [r1, r2] ∧ esc ρ1 r1 = some (.lst xs, ρ2) ∧ esc ρ2 r2 = some (.lst ys, ρ3) ∧ P (fun _ => True) ((xs.zip ys).map fun q => .tup [q.1, q.2]) ρ3
theorem di_zip {a b : Expr} {m : MA} {p tpos : Pos} {elts : List Expr} {kk : Nat} (hg : Gl X "zip") (hm : X.mg "zip" = none) (ha : DA X E [a, b] m)
    (hs : starEach [a, b] X.env = (false, eval a X.env) :: starEach [b] X.env := by rfl) (hpl : (backTo pos (starEach [b] X.env)).any (·.1) = false := by rfl) :
    DI X E (.Tuple elts kk tpos) (.Call (.Name "zip" p) [a, b] [] pos) (mZip m) := PI.to (pi_zip hg hm ha hs hpl) fun σ H R ⟨F, ρ, P, S, hm, k⟩ =>
  ⟨F, ρ, _, S, hm, fun rs ρ1 vs H1 F1 ⟨r1, r2, xs, ys, ρ2, ρ3, er, he1, he2, hp⟩ S1 l1 d1 => by
    subst er
    match vs, d1 with
    | [v, w], ⟨dv, dw, _⟩ =>
      obtain ⟨F2, l2, S2, q2⟩ := S1.esc dv he1
      obtain ⟨F3, l3, S3, q3⟩ := S2.esc (dw.mono l2) he2
      have q2 := q2.mono l3
      cases q2 with
      | lst h rr =>
        cases q3 with
        | lst h' rr' =>
          rename_i a vs b ws
          refine ⟨a, b, vs, ws, rfl, .inl (S3.hard h), .inl (S3.hard h'), k _ _ _ _ H1 F3 hp S3 ((l1.trans l2).trans l3) fun i F4 H4 σ4 ρ4 S4 l4 _ => ?_⟩
          have qa : SqL X.K H4 a vs := .inl (S4.hard (l4 _ _ h))
          have qb : SqL X.K H4 b ws := .inl (S4.hard (l4 _ _ h'))
          refine ⟨fun d hd => ?_, fun hl => ⟨vs, ws, qa, qb, ?_⟩⟩
          · rw [List.getElem?_map] at hd
            cases e : (xs.zip ys)[i]? with
            | none => rw [e] at hd; cases hd
            | some q =>
              obtain ⟨e1, e2⟩ := List.getElem?_zip_eq_some.mp e
              rw [e] at hd
              have hd' : D.tup [q.1, q.2] = d := Option.some.inj hd
              subst hd'
              obtain ⟨v0, hv, rv⟩ := rr.get e1
              obtain ⟨w0, hw, rw0⟩ := rr'.get e2
              refine ⟨⟨vs, ws, v0, w0, qa, qb, hv, hw⟩, fun x H' ⟨T, x0, y0, f1, hT, f2, y1, y2⟩ => ?_⟩
              subst f1; subst f2
              have z1 := y1 vs qa
              have z2 := y2 ws qb
              rw [hv] at z1
              rw [hw] at z2
              cases z1
              cases z2
              obtain ⟨F5, S5, l5, r5⟩ := S4.newTupN (ds := [q.1, q.2]) hT (.cons (rv.mono l4) (.cons (rw0.mono l4) .nil))
              exact ⟨F5, S5, l5, r5.1, fun a o z => by rw [upd_ne (ne_of_none z hT)]; exact z, r5.2⟩
          · rw [rr.length, rr'.length]
            simp at hl
            omega⟩
end
end DL
/-! DL9: for, list comprehensions. -/
namespace DL
open PySem L2
def mForL (ok : DEnv → Prop) (g : MG) (b : MS) (K : DEnds) : List D → DEnv → Prop
  | [], ρ => ok ρ ∧ K.nx ρ
  | d :: r, ρ => ok ρ ∧ g d ρ fun ρ1 => b { K with nx := mForL ok g b K r, ct := mForL ok g b K r, bk := K.nx } ρ1
def mFor (mi : MI) (g : MG) (b : MS) : MS := fun K ρ => mi ρ fun ok ds ρ1 => mForL ok g b K ds ρ1
theorem mForL_ok {ok : DEnv → Prop} {g : MG} {b : MS} {K : DEnds} {ds : List D} {ρ : DEnv} (h : mForL ok g b K ds ρ) : ok ρ := by
  cases ds with
  | nil => exact h.1
  | cons _ _ => exact h.1
section
variable {X : Cx} {E : En} {tg e iter elt : Expr} {pos : Pos} {mi : MI} {mg : MG} {mb : MS} {me : ME}
theorem ds_for {body : List Stmt} (hp : PassesOwn (model X.prog X.w) X.A X.env X.xe) (hc : X.calm = true) (hi : DI X E tg iter mi) (hg : DG X E tg mg) (hb : DSs X E body mb) (hs : ∀ x, foldedSetIterable iter X.env x = pure x := by intro _; rfl) :
    DS X E (.For tg iter body [] pos) (mFor mi mg mb) := PS.to (ps_for hp hc hi hg hb hs) fun Q σ H ⟨F, ρ, P, S, h, f⟩ => by
  refine ⟨F, ρ, _, S, h, fun ok ds ρ1 J H1 F1 hm S1 l1 sv => ?_⟩
  refine ⟨fun i m σ H => m = ds.length - i ∧ i ≤ ds.length ∧ ∃ F' ρ', SR E F' H σ ρ' ∧ Le F1 F' ∧ mForL ok mg mb P (ds.drop i) ρ', ⟨ds.length, by simp, Nat.zero_le _, F1, ρ1, S1, .refl, by simpa using hm⟩, ?_⟩
  rintro i m σ2 H2 ⟨rfl, hi, F2, ρ2, S2, l2, w2⟩
  have s2 := sv i F2 H2 σ2 ρ2 S2 l2 (mForL_ok w2)
  by_cases lt : i < ds.length
  · rw [List.drop_eq_getElem_cons lt] at w2
    obtain ⟨go, yl⟩ := s2.1 _ (List.getElem?_eq_getElem lt)
    refine .inr ⟨go, fun σ' H' => ∃ F' ρ', SR E F' H' σ' ρ' ∧ Le F1 F' ∧ mForL ok mg mb P (ds.drop (i + 1)) ρ', fun σ' H' h => ⟨ds.length - (i + 1), by omega, rfl, lt, h⟩, fun x H' y => ?_⟩
    obtain ⟨F3, S3, l3, r3, _⟩ := yl x H' y
    refine ⟨F3, ρ2, _, _, S3, r3, w2.2, fun ρ4 σ4 H4 F4 hb S4 l4 => ⟨F4, ρ4, _, S4, hb, ?_⟩⟩
    have go : ∀ ρ' σ' H' F', mForL ok mg mb P (ds.drop (i + 1)) ρ' → SR E F' H' σ' ρ' → Le F4 F' → ∃ F' ρ', SR E F' H' σ' ρ' ∧ Le F1 F' ∧ mForL ok mg mb P (ds.drop (i + 1)) ρ' := fun ρ' σ' H' F' w S' l' => ⟨F', ρ', S', ((l2.trans l3).trans l4).trans l', w⟩
    have f2 := f.le (((l1.trans l2).trans l3).trans l4)
    exact ⟨go, f2.rt, f2.ro, f2.nx, go⟩
  · have e : i = ds.length := by omega
    subst e
    rw [List.drop_length] at w2
    exact .inl ⟨s2.2 (Nat.le_refl _), f.nx ρ2 σ2 H2 F2 w2.2 S2 (l1.trans l2)⟩
end
/-! ### the slots of a comprehension's own names -/
def wipeD (ρ : DEnv) : List Nat → DEnv
  | [] => ρ
  | v :: vs => (wipeD ρ vs).set v none
def keepFz : Option (Option DV) → Option DV
  | some (some (.fz d)) => some (.fz d)
  | _ => none
def backD (ρ0 ρ : DEnv) : List Nat → DEnv
  | [] => ρ
  | v :: vs => (backD ρ0 ρ vs).set v (keepFz ρ0[v]?)
theorem wipeD_len (ρ : DEnv) : ∀ vs, (wipeD ρ vs).length = ρ.length
  | [] => rfl
  | v :: vs => by unfold wipeD; rw [List.length_set, wipeD_len ρ vs]
theorem backD_len (ρ0 ρ : DEnv) : ∀ vs, (backD ρ0 ρ vs).length = ρ.length
  | [] => rfl
  | v :: vs => by unfold backD; rw [List.length_set, backD_len ρ0 ρ vs]
theorem backD_some {ρ0 ρ : DEnv} {i : Nat} {dv : DV} : ∀ {vs : List Nat}, (backD ρ0 ρ vs)[i]? = some (some dv) → (i ∈ vs ∧ ∃ d, dv = .fz d ∧ ρ0[i]? = some (some (.fz d))) ∨ (i ∉ vs ∧ ρ[i]? = some (some dv))
  | [], h => .inr ⟨by simp, h⟩
  | v :: vs, h => by
    unfold backD at h
    by_cases e : i = v
    · subst e
      by_cases hl : i < (backD ρ0 ρ vs).length
      · rw [List.getElem?_set_self hl] at h
        have h' := Option.some.inj h
        refine .inl ⟨by simp, ?_⟩
        cases q : ρ0[i]? with
        | none => rw [q] at h'; cases h'
        | some o =>
          cases o with
          | none => rw [q] at h'; cases h'
          | some dv0 =>
            cases dv0 with
            | fz d => rw [q] at h'; cases h'; exact ⟨d, rfl, rfl⟩
            | ow d => rw [q] at h'; cases h'
            | bw d => rw [q] at h'; cases h'
      · rw [List.getElem?_eq_none (by simpa using hl)] at h; cases h
    · rw [List.getElem?_set_ne (Ne.symm e)] at h
      rcases backD_some h with ⟨a, b⟩ | ⟨a, b⟩
      · exact .inl ⟨List.mem_cons_of_mem _ a, b⟩
      · exact .inr ⟨by simp [e, a], b⟩
section
variable {E : En} {F F' : Fz} {H H' : Hp} {σ σ2 : St} {ρ ρ0 ρ' : DEnv} {p : Addr}
theorem SR.forget (S : SR E F H σ ρ) {i : Nat} (h : ∀ dv, ρ[i]? ≠ some (some dv)) (x : Option V) : SR E F H (σ.set i x) ρ := by
  have ne : ∀ j dv, ρ[j]? = some (some dv) → i ≠ j := fun j dv e z => h dv (by rw [z]; exact e)
  have own : ∀ j p, OwnsAt (σ.set i x) ρ j p → OwnsAt σ ρ j p := fun j p ⟨a, dv, b, c⟩ => ⟨by rw [List.getElem?_set_ne (ne j dv b)] at a; exact a, dv, b, c⟩
  exact ⟨S.sits, by rw [List.length_set]; exact S.len, fun j dv e => by rw [List.getElem?_set_ne (ne j dv e)]; exact S.at_ j dv e, fun j k p a b => S.sep j k p (own _ _ a) (own _ _ b),
    fun j d e => by rw [List.getElem?_set_ne (ne j _ e)]; exact S.pin j d e, S.go.less fun a ⟨j, z⟩ => ⟨j, own _ _ z⟩⟩
theorem SR.wiped (S : SR E F H σ ρ) : ∀ vs : List Nat, SR E F H (wipe σ vs) (wipeD ρ vs)
  | [] => S
  | v :: vs => by
    have S1 := (SR.wiped S vs).drop v
    refine S1.forget (fun dv e => ?_) none
    by_cases hl : v < (wipeD ρ vs).length
    · rw [List.getElem?_set_self hl] at e; cases e
    · rw [List.getElem?_eq_none (by simpa using hl)] at e; cases e
theorem owns_wiped {vs : List Nat} (h : Owns (wipe σ vs) (wipeD ρ vs) p) : Owns σ ρ p := by
  obtain ⟨i, a, dv, b, c⟩ := h
  refine ⟨i, (wipe_some a).1, dv, ?_, c⟩
  have key : ∀ {vs : List Nat}, (wipeD ρ vs)[i]? = some (some dv) → ρ[i]? = some (some dv) := by
    intro vs
    induction vs with
    | nil => exact fun h => h
    | cons v vs ih =>
      intro h
      unfold wipeD at h
      by_cases e : i = v
      · subst e
        by_cases hl : i < (wipeD ρ vs).length
        · rw [List.getElem?_set_self hl] at h; cases h
        · rw [List.getElem?_eq_none (by simpa using hl)] at h; cases h
      · rw [List.getElem?_set_ne (Ne.symm e)] at h
        exact ih h
  exact key b
/-- behind a comprehension's turn its own names' slots are what they were -/
theorem SR.restored {F0 : Fz} {H0 : Hp} (S : SR E F H σ2 ρ) (S0 : SR E F0 H0 σ ρ0) (l : Le F0 F) {vs : List Nat} (hw : wipe σ2 vs = wipe σ vs) (hl : σ2.length = σ.length) : SR E F H σ (backD ρ0 ρ vs) := by
  have out : ∀ i, i ∉ vs → σ2[i]? = σ[i]? := fun i hi => by
    have a := wipe_out (σ := σ2) hi
    have b := wipe_out (σ := σ) hi
    rw [← a, ← b, hw]
  have own : ∀ j p, OwnsAt σ (backD ρ0 ρ vs) j p → OwnsAt σ2 ρ j p := fun j p ⟨a, dv, b, c⟩ => by
    rcases backD_some b with ⟨hj, d, e, _⟩ | ⟨hj, e⟩
    · subst e; cases c
    · exact ⟨by rw [out j hj]; exact a, dv, e, c⟩
  refine ⟨S.sits, by rw [backD_len, ← S.len, hl], fun j dv e => ?_, fun j k p a b => S.sep j k p (own _ _ a) (own _ _ b), fun j d e => ?_, S.go.less fun a ⟨j, z⟩ => ⟨j, own _ _ z⟩⟩
  · rcases backD_some e with ⟨hj, d, rfl, e'⟩ | ⟨hj, e'⟩
    · obtain ⟨v, hv, r⟩ := S0.at_ j _ e'
      exact ⟨v, hv, Rep.mono l r⟩
    · obtain ⟨v, hv, r⟩ := S.at_ j _ e'
      exact ⟨v, by rw [← out j hj]; exact hv, r⟩
  · rcases backD_some e with ⟨hj, d', z, e'⟩ | ⟨hj, e'⟩
    · cases z
    · rw [← out j hj]
      exact S.pin j d e'
/-- an object that nobody holds, made within, is changed -/
theorem SR.poke (S : SR E F H σ ρ) {o : HO} (hF : F p = none) (no : ¬ Owns σ ρ p) (en : E.H p = none) : SR E F (upd H p o) σ ρ where
  sits := fun a fo e => by
    have z := S.sits a fo e
    have ne : a ≠ p := fun q => by subst q; rw [hF] at e; cases e
    cases fo with
    | hard o => exact Rx.at_ (show Rx H a o from z) (upd_ne ne)
    | soft d => obtain ⟨o', z1, z2⟩ : ∃ o, H a = some o ∧ Sft d F o := z; exact ⟨o', (upd_ne ne).trans z1, z2⟩
  len := S.len
  at_ := fun i dv e => by
    obtain ⟨w, h1, h2⟩ := S.at_ i dv e
    refine ⟨w, h1, ?_⟩
    have ne : ∀ {q : Addr}, w = .ref q → dv.owned = true → q ≠ p := fun {q} e1 e2 e3 => no ⟨i, by rw [h1, e1, e3], dv, e, e2⟩
    cases dv with
    | fz d => exact h2
    | ow d => obtain ⟨q, a, b, c⟩ := h2; exact ⟨q, a, b, c.heap (upd_ne (ne a rfl))⟩
    | bw d => obtain ⟨q, a, b, c⟩ := h2; exact ⟨q, a, b, c.heap (upd_ne (ne a rfl))⟩
  sep := S.sep
  pin := S.pin
  go := ⟨S.go.le, fun a o' h1 h2 h3 => by
      have ne : a ≠ p := fun q => by rw [q, en] at h1; cases h1
      rw [upd_ne ne]
      exact S.go.keep a o' h1 h2 h3, S.go.fz, S.go.own, fun a o' h => by
      by_cases q : a = p
      · exact ⟨o, by rw [q]; exact upd_same⟩
      · rw [upd_ne q]
        exact S.go.dom a o' h⟩
end
/-! ### targets of a comprehension -/
structure TgD (vs : List Nat) (g : TG) (m : MG) : Prop where
  run : ∀ (E : En) (F : Fz) (H : Hp) (σ : St) (ρ : DEnv) (v : V) (d : D) (P : DEnv → Prop) (Q : St → Hp → Prop), SR E F H σ ρ → Rep F v d → m d ρ P → (∀ ρ' σ', P ρ' → SR E F H σ' ρ' → wipe σ' vs = wipe σ vs → Q σ' H) → g v σ H Q
structure TgsD (vs : List Nat) (g : TGs) (m : MGs) : Prop where
  run : ∀ (E : En) (F : Fz) (H : Hp) (σ : St) (ρ : DEnv) (v : List V) (d : List D) (P : DEnv → Prop) (Q : St → Hp → Prop), SR E F H σ ρ → Reps F v d → m d ρ P → (∀ ρ' σ', P ρ' → SR E F H σ' ρ' → wipe σ' vs = wipe σ vs → Q σ' H) → g v σ H Q
theorem wipe_set {σ : St} {i : Nat} {x : Option V} : ∀ {vs : List Nat}, i ∈ vs → wipe (σ.set i x) vs = wipe σ vs
  | v :: vs, h => by
    unfold wipe
    by_cases e : i ∈ vs
    · rw [wipe_set e]
    · have ev : i = v := by
        rcases List.mem_cons.mp h with z | z
        · exact z
        · exact absurd z e
      subst ev
      have key : ∀ {vs : List Nat}, i ∉ vs → wipe (σ.set i x) vs = (wipe σ vs).set i x := by
        intro vs
        induction vs with
        | nil => intro _; rfl
        | cons w ws ih =>
          intro hn
          simp only [List.mem_cons, not_or] at hn
          unfold wipe
          rw [ih hn.2, List.set_comm _ _ (fun z => hn.1 z)]
      rw [key e, List.set_set]
theorem tgd_name {vs : List Nat} {i : Nat} (h : i ∈ vs) : TgD vs (gName i) (gSet i) := ⟨fun E F H σ ρ v d P Q S r hp k => k _ _ hp (S.fzSet i r) (wipe_set h)⟩
theorem tgsd_nil {vs : List Nat} : TgsD vs gNil gsNil := ⟨fun E F H σ ρ v d P Q S r ⟨e, hp⟩ k => by
  subst e
  cases r
  exact ⟨rfl, k _ _ hp S rfl⟩⟩
theorem tgsd_cons {vs : List Nat} {g : TG} {gs : TGs} {m : MG} {ms : MGs} (h : TgD vs g m) (hs : TgsD vs gs ms) : TgsD vs (gCons g gs) (gsCons m ms) := ⟨fun E F H σ ρ v d P Q S r ⟨d0, dr, e, hm⟩ k => by
  subst e
  cases r with
  | cons r rr => exact ⟨_, _, rfl, h.run E F H σ ρ _ _ _ _ S r hm fun ρ1 σ1 h1 S1 w1 => hs.run E F H σ1 ρ1 _ _ _ _ S1 rr h1 fun ρ2 σ2 h2 S2 w2 => k _ _ h2 S2 (w2.trans w1)⟩⟩
theorem tgd_tup {K : PySem.W.Frag} {vs : List Nat} {n : Nat} {gs : TGs} {ms : MGs} (h : TgsD vs gs ms) : TgD vs (gTup K n gs) (gTupD n ms) := ⟨fun E F H σ ρ v d P Q S r ⟨ds, e, hl, hm⟩ k => by
  subst e
  cases r with
  | tup hF rs => exact ⟨_, _, rfl, .inl (S.hard hF), by rw [rs.length, hl], h.run E F H σ ρ _ _ _ _ S rs hm k⟩⟩
/-! ### list comprehensions -/
abbrev DTs (X : Cx) (E : En) (ifs : List Expr) (m : MT) : Prop := PTs X ifs (tLT E m)
def mYes : MT := fun ρ P => P true ρ
theorem PTs.to {X : Cx} {ifs : List Expr} {t u : TT} (h : PTs X ifs t) (f : ∀ σ H Q, u σ H Q → t σ H Q) : PTs X ifs u := ⟨fun pins s σ H Q I q => h.run pins s σ H Q I (f σ H Q q)⟩
theorem dts_nil {X : Cx} {E : En} : DTs X E [] mYes := PTs.to pts_nil fun σ H Q ⟨F, ρ, P, S, hp, k⟩ => k true ρ H F hp S .refl
theorem dts_one {X : Cx} {E : En} {c : Expr} {m : MT} (h : DT X E c m) : DTs X E [c] m := pts_one h
def mLcL (ok : DEnv → Prop) (vs : List Nat) (g : MG) (t : MT) (m : ME) (Q : D → DEnv → Prop) : List D → List D → DEnv → Prop
  | [], acc, ρ => ok ρ ∧ Q (.lst acc) ρ
  | d :: r, acc, ρ => ok ρ ∧ g d (wipeD ρ vs) fun ρ1 => t ρ1 fun c ρ2 => if c = true then m ρ2 fun rf ρ3 => ∃ e ρ4, esc ρ3 rf = some (e, ρ4) ∧ acc.length < sizeLine ∧ mLcL ok vs g t m Q r (acc ++ [e]) (backD ρ ρ4 vs) else mLcL ok vs g t m Q r acc (backD ρ ρ2 vs)
def mLc (mi : MI) (vs : List Nat) (g : MG) (t : MT) (m : ME) : MO := fun ρ Q => mi ρ fun ok ds ρ1 => mLcL ok vs g t m Q ds [] ρ1
theorem mLcL_ok {ok : DEnv → Prop} {vs : List Nat} {g : MG} {t : MT} {m : ME} {Q : D → DEnv → Prop} {ds acc : List D} {ρ : DEnv} (h : mLcL ok vs g t m Q ds acc ρ) : ok ρ := by
  cases ds with
  | nil => exact h.1
  | cons _ _ => exact h.1
section
variable {X : Cx} {E : En} {tg elt iter : Expr} {pos : Pos} {mi : MI} {mg : MG} {mt : MT} {me : ME} {ifs : List Expr} {scope : Scope} {own : List (Str × Nat)} {g : TG}
theorem lc_to (tgd : TgD (own.map (·.2)) g mg) : ∀ σ H Q, tLO E (mLc mi (own.map (·.2)) mg mt me) σ H Q → tLc (tLI E mi) g (fun σ H Q => ∃ E', tLT E' mt σ H Q) (fun σ H Q => ∃ E', tL E' me σ H Q) (own.map (·.2)) σ H Q := fun σ H Q ⟨F, ρ, P, S, hm, k⟩ => by
  generalize own.map (·.2) = vs at *
  refine ⟨F, ρ, _, S, hm, fun ok ds ρ1 J H1 F1 hp S1 l1 sv D hD => ?_⟩
  have enD : E.H D = none := S1.go.free hD
  refine ⟨fun i m H => m = ds.length - i ∧ i ≤ ds.length ∧ ∃ F' ρ' acc va, SR E F' H σ ρ' ∧ Le F1 F' ∧ H D = some (.lst va) ∧ F' D = none ∧ ¬ Owns σ ρ' D ∧ Reps F' va acc ∧ mLcL ok vs mg mt me P (ds.drop i) acc ρ',
    ⟨ds.length, by simp, Nat.zero_le _, F1, ρ1, [], [], S1.lay hD, .refl, upd_same, S1.nil hD, S1.fresh hD, .nil, by simpa using hp⟩, ?_⟩
  rintro i m H2 ⟨rfl, hi, F2, ρ2, acc, va, S2, l2, hD2, fD2, no2, ra, w2⟩
  have s2 := sv i F2 H2 σ ρ2 S2 l2 (mLcL_ok w2)
  by_cases lt : i < ds.length
  · rw [List.drop_eq_getElem_cons lt] at w2
    obtain ⟨go, yl⟩ := s2.1 _ (List.getElem?_eq_getElem lt)
    refine .inr ⟨go, fun H' => ∃ F' ρ' acc va, SR E F' H' σ ρ' ∧ Le F1 F' ∧ H' D = some (.lst va) ∧ F' D = none ∧ ¬ Owns σ ρ' D ∧ Reps F' va acc ∧ mLcL ok vs mg mt me P (ds.drop (i + 1)) acc ρ', fun H' h => ⟨ds.length - (i + 1), by omega, rfl, lt, h⟩, fun x H' y => ?_⟩
    obtain ⟨F3, S3, l3, r3, ext, fzz⟩ := yl x H' y
    have hD3 := ext _ _ hD2
    have fD3 : F3 D = none := by
      cases q : F3 D with
      | none => rfl
      | some fo =>
        rcases fzz D fo q with z | z
        · rw [fD2] at z; cases z
        · rw [hD2] at z; cases z
    have Sw := S3.wiped vs
    have Se := Sw.again
    have nO : ¬ Owns (wipe σ vs) (wipeD ρ2 vs) D := fun z => no2 (owns_wiped z)
    have nS : ¬ Soft F3 D := fun ⟨d, z⟩ => by rw [fD3] at z; cases z
    refine tgd.run _ F3 H' (wipe σ vs) (wipeD ρ2 vs) x _ _ _ Se r3 w2.2 fun ρ4 σ4 h4 S4 w4 => ?_
    have w4' : wipe σ4 vs = wipe σ vs := by
      rw [w4]
      have : ∀ (σ : St) (vs ws : List Nat), (∀ v ∈ ws, v ∈ vs) → wipe (wipe σ ws) vs = wipe σ vs := by
        intro σ vs ws
        induction ws with
        | nil => intro _; rfl
        | cons w ws ih =>
          intro hh
          show wipe ((wipe σ ws).set w none) vs = _
          rw [wipe_set (hh w (by simp)), ih fun v hv => hh v (by simp [hv])]
      exact this σ vs vs fun v hv => hv
    refine ⟨w4', _, F3, ρ4, _, S4, h4, fun c ρ5 H5 F5 h5 S5 l5 => ?_⟩
    -- what stays of D through the block
    have keepD : ∀ {F' : Fz} {H'' : Hp} {σ' : St} {ρ' : DEnv}, SR (anew F3 H' (wipe σ vs) (wipeD ρ2 vs)) F' H'' σ' ρ' → H'' D = some (.lst va) ∧ F' D = none ∧ ¬ Owns σ' ρ' D := fun {F' H'' σ' ρ'} S' => by
      refine ⟨S'.go.keep D _ hD3 nO nS, ?_, fun z => ?_⟩
      · cases q : F' D with
        | none => rfl
        | some fo =>
          rcases S'.go.fz D fo q with z | z | z
          · rw [show (anew F3 H' (wipe σ vs) (wipeD ρ2 vs)).F D = none from fD3] at z; cases z
          · rw [show (anew F3 H' (wipe σ vs) (wipeD ρ2 vs)).H D = some (.lst va) from hD3] at z; cases z
          · exact absurd z nO
      · rcases S'.go.own D z with z | z
        · exact nO z
        · rw [show (anew F3 H' (wipe σ vs) (wipeD ρ2 vs)).H D = some (.lst va) from hD3] at z; cases z
    have lenS : ∀ {F' : Fz} {H'' : Hp} {ρ' : DEnv}, SR (anew F3 H' (wipe σ vs) (wipeD ρ2 vs)) F' H'' σ4 ρ' → σ4.length = σ.length := fun {F' H'' ρ'} S' => by
      have := congrArg List.length w4'
      rwa [wipe_length, wipe_length] at this
    cases c with
    | true =>
      rw [if_pos rfl] at h5
      dsimp only
      rw [if_pos rfl]
      refine ⟨_, F5, ρ5, _, S5, h5, fun rf ρ6 v H6 F6 ⟨e, ρ7, he, hz, w7⟩ S6 l6 d6 => ?_⟩
      obtain ⟨F7, l7, S7, r7⟩ := S6.esc d6 he
      obtain ⟨hD7, fD7, no7⟩ := keepD S7
      have l37 : Le F3 F7 := (l5.trans l6).trans l7
      have B := (Sw.back S7).restored S3 l37 w4' (lenS S7)
      have noB : ¬ Owns σ (backD ρ2 ρ7 vs) D := fun ⟨j, a, dv, b, c⟩ => by
        rcases backD_some b with ⟨hj, d, e, _⟩ | ⟨hj, e⟩
        · subst e; cases c
        · refine no7 ⟨j, ?_, dv, e, c⟩
          have x1 := wipe_out (σ := σ4) hj
          have x2 := wipe_out (σ := σ) hj
          rw [← x1, w4', x2]
          exact a
      refine ⟨va, hD7, by rw [ra.length]; exact hz, F7, _, acc ++ [e], va ++ [v], B.poke fD7 noB enD, (l2.trans l3).trans l37, upd_same, fD7, noB, (ra.mono (l3.trans l37)).append (.cons r7 .nil), w7⟩
    | false =>
      rw [if_neg Bool.false_ne_true] at h5
      dsimp only
      rw [if_neg Bool.false_ne_true]
      obtain ⟨hD5, fD5, no5⟩ := keepD S5
      have B := (Sw.back S5).restored S3 l5 w4' (lenS S5)
      have noB : ¬ Owns σ (backD ρ2 ρ5 vs) D := fun ⟨j, a, dv, b, c⟩ => by
        rcases backD_some b with ⟨hj, d, e, _⟩ | ⟨hj, e⟩
        · subst e; cases c
        · refine no5 ⟨j, ?_, dv, e, c⟩
          have x1 := wipe_out (σ := σ4) hj
          have x2 := wipe_out (σ := σ) hj
          rw [← x1, w4', x2]
          exact a
      exact ⟨F5, _, acc, va, B, (l2.trans l3).trans l5, hD5, fD5, noB, ra.mono (l3.trans l5), h5⟩
  · have e : i = ds.length := by omega
    subst e
    rw [List.drop_length] at w2
    exact .inl ⟨s2.2 (Nat.le_refl _), k _ _ D H2 F2 w2.2 S2 (l1.trans l2) ⟨fD2, ⟨va, hD2, ra⟩, no2, enD⟩⟩
theorem do_lc (hc : X.calm = true) (hN : X.N.Nodup) (hi : DI X E tg iter mi) (ok : BlkOk X.N X.env.scope scope own) (tgd : TgD (own.map (·.2)) g mg)
    (hg : ∀ (s : Shared) (H : Hp) (C : Addr) (cl : List (Str × Addr)) (fp : List Addr), PG (X.blk s H scope (compEnvC scope cl C X.env) fp) tg g)
    (ht : ∀ (s : Shared) (H : Hp) (C : Addr) (cl : List (Str × Addr)) (fp : List Addr) (E' : En), DTs (X.blk s H scope (compEnvC scope cl C X.env) fp) E' ifs mt)
    (he : ∀ (s : Shared) (H : Hp) (C : Addr) (cl : List (Str × Addr)) (fp : List Addr) (E' : En), DE (X.blk s H scope (compEnvC scope cl C X.env) fp) E' elt me) (hs : ∀ x, foldedSetIterable iter X.env x = pure x := by intro _; rfl) :
    DO X E (.ListComp elt [⟨tg, iter, ifs, 0⟩] scope pos) (mLc mi (own.map (·.2)) mg mt me) :=
  PE.to (pe_lc hc hN hi ok hg (fun s H C cl fp => ⟨fun pins s' σ H' Q I ⟨E', h⟩ => (ht s H C cl fp E').run pins s' σ H' Q I h⟩) (fun s H C cl fp => ⟨fun pins s' σ H' Q I ⟨E', h⟩ => (he s H C cl fp E').run pins s' σ H' Q I h⟩) hs) (lc_to tgd)
/-- name = [..] on one line -/
theorem ds_setLc {i : Nat} {y : Str} {py spos : Pos} (hc : X.calm = true) (hN : X.N.Nodup) (hy : X.N[i]? = some y) (hyl : X.env.scope.names.lookup y = some .local)
    (hsw : swapsWith (.ListComp elt [⟨tg, iter, ifs, 0⟩] scope pos) (some (.Name y py)) spos.line X.env = pure true) (hi : DI X E tg iter mi) (ok : BlkOk X.N X.env.scope scope own) (tgd : TgD (own.map (·.2)) g mg)
    (hg : ∀ (s : Shared) (H : Hp) (C : Addr) (cl : List (Str × Addr)) (fp : List Addr), PG (X.blk s H scope (compEnvC scope cl C X.env) fp) tg g)
    (ht : ∀ (s : Shared) (H : Hp) (C : Addr) (cl : List (Str × Addr)) (fp : List Addr) (E' : En), DTs (X.blk s H scope (compEnvC scope cl C X.env) fp) E' ifs mt)
    (he : ∀ (s : Shared) (H : Hp) (C : Addr) (cl : List (Str × Addr)) (fp : List Addr) (E' : En), DE (X.blk s H scope (compEnvC scope cl C X.env) fp) E' elt me) (hs : ∀ x, foldedSetIterable iter X.env x = pure x := by intro _; rfl) :
    DS X E (.Assign [.Name y py] (.ListComp elt [⟨tg, iter, ifs, 0⟩] scope pos) spos) (mSetO i (mLc mi (own.map (·.2)) mg mt me)) :=
  PS.to (ps_setLc hc hN hy hyl hsw hi ok hg (fun s H C cl fp => ⟨fun pins s' σ H' Q I ⟨E', h⟩ => (ht s H C cl fp E').run pins s' σ H' Q I h⟩) (fun s H C cl fp => ⟨fun pins s' σ H' Q I ⟨E', h⟩ => (he s H C cl fp E').run pins s' σ H' Q I h⟩) hs) fun Q σ H ⟨F, ρ, P, S, h, f⟩ =>
    lc_to tgd σ H _ ⟨F, ρ, _, S, h, fun d ρ1 p H1 F1 hp S1 l1 N => f.nx _ _ H1 F1 hp (S1.owSet i N) l1⟩
end
end DL
/-! DL10: fields, dicts, stores, methods of lists. -/
namespace DL
open PySem L2
/-! ### fields -/
def Fk (K : PySem.W.Frag) (C : Addr) (f : Str) : Prop := Cls K C ∧ NoAttr K C f
section
variable {X : Cx} {E : En} {e a b : Expr} {pos : Pos} {me ma mb : ME} {f : Str}
def mFld (K : PySem.W.Frag) (f : Str) (m : ME) : ME := fun ρ P => m ρ fun r ρ1 => ∃ C fs d, r.get ρ1 = some (.ins C fs) ∧ fs.lookup f = some d ∧ Fk K C f ∧ P (.val d) ρ1
theorem de_fld (h : DE X E e me) (hb : attributeBase e f X.env (eval e X.env) = eval e X.env := by rfl) : DE X E (.Attribute e f pos) (mFld X.K f me) := PE.to (pe_fld h hb) fun σ H Q ⟨F, ρ, P, S, hm, k⟩ =>
  ⟨F, ρ, _, S, hm, fun r ρ1 v H1 F1 ⟨C, fs, d, g, hl, fk, hp⟩ S1 l1 d1 => by
    obtain ⟨p, dx, vs, e, hH, rr⟩ := (S1.view d1 g).ins S1.sits
    obtain ⟨w, hw, rw'⟩ := rr.lookup hl
    exact ⟨p, C, dx, vs, w, e, hH, fk.1, fk.2, hw, k _ _ _ H1 F1 hp S1 l1 rw'⟩⟩
/-- self.f = e -/
def mFldS (K : PySem.W.Frag) (i : Nat) (f : Str) (m : ME) : MS := fun k ρ => m ρ fun r ρ1 => ∃ d ρ2 dv C fs, esc ρ1 r = some (d, ρ2) ∧ ρ2[i]? = some (some dv) ∧ dv.owned = true ∧ dv.d = .ins C fs ∧ Fk K C f ∧ fs.length < 1000 ∧ k.nx (ρ2.set i (some (dv.re (.ins C (putD f d fs)))))
theorem SR.ownedIns {F : Fz} {H : Hp} {σ : L2.St} {ρ : DEnv} {i : Nat} {dv : DV} (S : SR E F H σ ρ) (h : ρ[i]? = some (some dv)) (ho : dv.owned = true) : ∃ p, σ[i]? = some (some (.ref p)) ∧ F p = none ∧ Own F H p dv.d := by
  obtain ⟨v, hv, q⟩ := S.at_ i dv h
  cases dv with
  | fz d => cases ho
  | ow d => obtain ⟨p, rfl, a, b⟩ := q; exact ⟨p, hv, a, b⟩
  | bw d => obtain ⟨p, rfl, a, b⟩ := q; exact ⟨p, hv, a, b⟩
theorem ds_fld {i : Nat} {x : Str} {p pos' : Pos} {value : Expr} (ho : PE X (.Name x p) (tVar i)) (hv : DE X E value me) (hs : swapsWith value (some (.Attribute (.Name x p) f pos')) pos.line X.env = pure false := by rfl) :
    DS X E (.Assign [.Attribute (.Name x p) f pos'] value pos) (mFldS X.K i f me) := PS.to (ps_fld ho hv hs) fun Q σ H ⟨F, ρ, P, S, h, ft⟩ =>
  ⟨F, ρ, _, S, h, fun r ρ1 v H1 F1 ⟨d, ρ2, dv, C, fs, he, hi, hw, hd, fk, hz, hp⟩ S1 l1 d1 => by
    obtain ⟨F2, l2, S2, r2⟩ := S1.esc d1 he
    obtain ⟨q, hq, hF, own⟩ := S2.ownedIns hi hw
    rw [hd] at own
    obtain ⟨dx, vs, hH, rr⟩ := own
    refine ⟨_, hq, q, C, dx, vs, rfl, hH, fk.1, fk.2, by rw [rr.length]; exact hz, ?_⟩
    exact ft.nx _ σ _ F2 hp (S2.change hq hi hw (d := .ins C (putD f d fs)) ⟨dx, _, upd_same, rr.put r2⟩) (l1.trans l2)⟩
end
/-! ### dicts -/
def kD : D → Option Key
  | .int i => some (.inl i)
  | .str x => some (.inr x)
  | _ => none
theorem kD_v {d : D} {k : Key} (h : kD d = some k) {F : Fz} {H : Hp} {v : V} (w : View F H v d) : v = kV k := by
  cases d <;> simp [kD] at h
  · subst h; exact w.int
  · subst h; exact w.str
def valD (kvs : List (Key × D)) (k : Key) : Option D := (kvs.find? fun kv => decide (kv.1 = k)).map (·.2)
def putKD (kvs : List (Key × D)) (k : Key) (v : D) : List (Key × D) :=
  if (kvs.any fun kv => decide (kv.1 = k)) = true then kvs.map (fun kv => if kv.1 = k then (kv.1, v) else kv) else kvs ++ [(k, v)]
theorem RepK.val {F : Fz} {k : Key} : ∀ {vs : List (Key × V)} {ds : List (Key × D)}, RepK F vs ds → (∀ d, valD ds k = some d → ∃ v, valV vs k = some v ∧ Rep F v d) ∧ (valD ds k = none → valV vs k = none)
  | _, _, .nil => ⟨fun d h => by simp [valD] at h, fun _ => rfl⟩
  | _ :: vs, _ :: ds, .cons (k := k0) h r => by
    obtain ⟨i1, i2⟩ := r.val (k := k)
    by_cases e : k0 = k
    · subst e
      refine ⟨fun d hd => ?_, fun hd => ?_⟩
      · simp [valD, List.find?_cons] at hd
        subst hd
        exact ⟨_, by simp [valV, List.find?_cons], h⟩
      · simp [valD, List.find?_cons] at hd
    · refine ⟨fun d hd => ?_, fun hd => ?_⟩
      · have hd' : valD ds k = some d := by simpa [valD, List.find?_cons, e] using hd
        obtain ⟨v, a, b⟩ := i1 d hd'
        exact ⟨v, by simpa [valV, List.find?_cons, e] using a, b⟩
      · have hd' : valD ds k = none := by simpa [valD, List.find?_cons, e] using hd
        have := i2 hd'
        simpa [valV, List.find?_cons, e] using this
theorem RepK.any {F : Fz} {k : Key} : ∀ {vs : List (Key × V)} {ds : List (Key × D)}, RepK F vs ds → (vs.any fun kv => decide (kv.1 = k)) = ds.any fun kv => decide (kv.1 = k)
  | _, _, .nil => rfl
  | _, _, .cons h r => by rw [List.any_cons, List.any_cons, r.any]
theorem RepK.append {F : Fz} : ∀ {vs ws : List (Key × V)} {ds es : List (Key × D)}, RepK F vs ds → RepK F ws es → RepK F (vs ++ ws) (ds ++ es)
  | _, _, _, _, .nil, s => s
  | _, _, _, _, .cons h r, s => .cons h (r.append s)
theorem RepK.mapPut {F : Fz} {k : Key} {v : V} {d : D} (h : Rep F v d) : ∀ {vs : List (Key × V)} {ds : List (Key × D)}, RepK F vs ds → RepK F (vs.map fun kv => if kv.1 = k then (kv.1, v) else kv) (ds.map fun kv => if kv.1 = k then (kv.1, d) else kv)
  | _, _, .nil => .nil
  | _, _, .cons (k := k0) q r => by
    rw [List.map_cons, List.map_cons]
    by_cases e : k0 = k
    · rw [if_pos e, if_pos e]
      exact .cons h (r.mapPut h)
    · rw [if_neg e, if_neg e]
      exact .cons q (r.mapPut h)
theorem RepK.put {F : Fz} {k : Key} {v : V} {d : D} {vs : List (Key × V)} {ds : List (Key × D)} (r : RepK F vs ds) (h : Rep F v d) : RepK F (putK vs k v) (putKD ds k d) := by
  unfold putK putKD
  rw [r.any]
  split
  · exact r.mapPut h
  · exact r.append (.cons h .nil)
section
variable {X : Cx} {E : En} {e a b : Expr} {pos : Pos} {me ma mb : ME}
def rDGet : R2 := fun x y H Q => ∃ a v, x = .ref a ∧ DGet H a y (some v) ∧ Q v H
open PySem.Spec PyProof.Rows in
theorem ix_dict (hu : X.A.units + 1 < cLine) : IxR X rDGet := by
  intro value slice pins s σ H x y v u Q I rx ry h hs
  obtain ⟨d, w, ex, g, q⟩ := h
  subst ex
  obtain rfl : v = Value.ref d := rx
  have hT := dict_typeIs I g
  unfold subscriptTail
  refine wpAny_bind ?_
  rw [getitemInPython_of_ne hT.not_modules]
  have fin : wpAny (model X.prog X.w) X.A (subscripted slice false (Value.ref d) u) (fun r s3 => wpAny (model X.prog X.w) X.A (letTemporaryGo value (Value.ref d) r >>= fun _ => pure r) (EP X pins σ Q) X.xe s3) X.xe s := by
    rw [hs]
    refine wpAny_operating (wpAny_mono (d_getItem (Q := fun r s' => EP X pins σ Q r s') hu I g ry fun z s' J r' => ⟨w, H, J, r', q⟩) (fun r s3 h3 => wpAny_bind (wpAny_letTemporaryGo (wpAny_pure h3))) fun _ _ z => z)
  refine wpAny_bind (wpAny_specialOf hT PySem.F.slot_dict_getitem.lookup ?_)
  first
    | exact wpAny_pure (wpAny_bind fin)
    | exact wpAny_bind (wpAny_pure (wpAny_bind fin))
    | exact wpAny_bind fin
def gIxK : D → D → D → Prop := fun a b d => ∃ kvs k, a = .dic kvs ∧ kD b = some k ∧ valD kvs k = some d
theorem od_dget : OpD rDGet gIxK := fun E F H σ ρ x y d1 d2 d Q S v1 v2 ⟨kvs, k, e1, e2, e3⟩ q => by
  subst e1
  obtain ⟨p, vs, e, hp, r⟩ := v1.dic S.sits
  obtain ⟨v, hv, rv⟩ := (r.val (k := k)).1 d e3
  exact ⟨p, v, e, .inl ⟨vs, k, hp, kD_v e2 v2, hv.symm⟩, q v H F S .refl rv⟩
def gItem : D → D → D → Prop := fun a b d => gIx a b d ∨ gIxK a b d
theorem de_item (hu : X.A.units + 1 < cLine) (ha : DE X E a ma) (hb : DE X E b mb) (hs : PlainIx b := by first | exact fun _ _ => rfl) : DE X E (.Subscript a b pos) (mOp gItem ma mb) := PE.to (pe_ix (ix_all.or (ix_dict hu)) ha hb hs) (op_to (od_ix.or od_dget))
@[simp] theorem gItem_lst {ds : List D} {i : Int} {d : D} : gItem (.lst ds) (.int i) d ↔ L2.atI ds i = some d := by simp [gItem, gIx, gIxK]
@[simp] theorem gItem_tup {ds : List D} {i : Int} {d : D} : gItem (.tup ds) (.int i) d ↔ L2.atI ds i = some d := by simp [gItem, gIx, gIxK]
@[simp] theorem gItem_str {z : Str} {i : Int} {d : D} : gItem (.str z) (.int i) d ↔ z.length ≤ sizeLine ∧ ∃ c, L2.atI z.cps.toList i = some c ∧ d = .str ⟨#[c]⟩ := by simp [gItem, gIx, gIxK]
@[simp] theorem gItem_dicS {kvs : List (Key × D)} {x : Str} {d : D} : gItem (.dic kvs) (.str x) d ↔ valD kvs (.inr x) = some d := by simp [gItem, gIx, gIxK, kD]
/-! in -/
def rInK (neg : Bool) : R2 := fun x y H Q => ∃ a o, y = .ref a ∧ DGet H a x o ∧ Q (.bl (if neg then !o.isSome else o.isSome)) H
theorem op_inK (hu : X.A.units + 1 < cLine) : OpR X (compareOp .In) (rInK false) := by
  intro pins s σ H x y v u Q I rx ry h
  obtain ⟨d, o, ex, g, q⟩ := h
  subst ex
  obtain rfl : u = Value.ref d := ry
  exact d_in hu I g rx fun s' J => ⟨.bl o.isSome, H, J, rfl, q⟩
theorem op_notInK (hu : X.A.units + 1 < cLine) : OpR X (compareOp .NotIn) (rInK true) := by
  intro pins s σ H x y v u Q I rx ry h
  obtain ⟨d, o, ex, g, q⟩ := h
  subst ex
  obtain rfl : u = Value.ref d := ry
  exact d_notIn hu I g rx fun s' J => ⟨.bl (!o.isSome), H, J, rfl, q⟩
def gInK (neg : Bool) : D → D → D → Prop := fun a b d => ∃ kvs k, b = .dic kvs ∧ kD a = some k ∧ d = .bl (if neg then !(valD kvs k).isSome else (valD kvs k).isSome)
theorem od_inK (neg : Bool) : OpD (rInK neg) (gInK neg) := fun E F H σ ρ x y d1 d2 d Q S v1 v2 ⟨kvs, k, e1, e2, e3⟩ q => by
  subst e1; subst e3
  obtain ⟨p, vs, e, hp, r⟩ := v2.dic S.sits
  refine ⟨p, valV vs k, e, .inl ⟨vs, k, hp, kD_v e2 v1, rfl⟩, ?_⟩
  have es : (valV vs k).isSome = (valD kvs k).isSome := by
    cases z : valD kvs k with
    | none => rw [(r.val (k := k)).2 z]; rfl
    | some d => obtain ⟨v, hv, _⟩ := (r.val (k := k)).1 d z; rw [hv]; rfl
  rw [es]
  exact q _ H F S .refl (.bl _)
def gInAll : D → D → D → Prop := fun a b d => gIn false a b d ∨ (gInS false a b d ∨ gInK false a b d)
def gNotInAll : D → D → D → Prop := fun a b d => gIn true a b d ∨ (gInS true a b d ∨ gInK true a b d)
theorem od_notInS : OpD (fun x y H (Q : VK) => ∃ (c : Nat) (z : Str), x = .str ⟨#[c]⟩ ∧ y = .str z ∧ Q (.bl (!decide (c ∈ z.cps.toList))) H) (gInS true) := fun E F H σ ρ x y d1 d2 d Q S v1 v2 ⟨c, z, e1, e2, e3⟩ k => by
  subst e1; subst e2; subst e3
  exact ⟨c, z, v1.str, v2.str, k _ H F S .refl (.bl _)⟩
theorem de_in (hu : X.A.units + 1 < cLine) (ha : DE X E a ma) (hb : DE X E b mb) (hm : behindInMarks .In b = false := by rfl) : DE X E (.Compare a [.In] [b] pos) (mOp gInAll ma mb) := de_cmp (op_in_seq.or (op_in_sign.or (op_inK hu))) ((od_in false).or (od_inS.or (od_inK false))) ha hb hm
theorem dt_in (hu : X.A.units + 1 < cLine) (ha : DE X E a ma) (hb : DE X E b mb) (hm : behindInMarks .In b = false := by rfl) : DT X E (.Compare a [.In] [b] pos) (mTst (mOp gInAll ma mb)) := dt_cmp (op_in_seq.or (op_in_sign.or (op_inK hu))) ((od_in false).or (od_inS.or (od_inK false))) ha hb hm
theorem de_notIn (hu : X.A.units + 1 < cLine) (ha : DE X E a ma) (hb : DE X E b mb) (hm : behindInMarks .NotIn b = false := by rfl) : DE X E (.Compare a [.NotIn] [b] pos) (mOp gNotInAll ma mb) := de_cmp (op_notIn_seq.or (op_notIn_sign.or (op_notInK hu))) ((od_in true).or (od_notInS.or (od_inK true))) ha hb hm
theorem dt_notIn (hu : X.A.units + 1 < cLine) (ha : DE X E a ma) (hb : DE X E b mb) (hm : behindInMarks .NotIn b = false := by rfl) : DT X E (.Compare a [.NotIn] [b] pos) (mTst (mOp gNotInAll ma mb)) := dt_cmp (op_notIn_seq.or (op_notIn_sign.or (op_notInK hu))) ((od_in true).or (od_notInS.or (od_inK true))) ha hb hm
@[simp] theorem gInAll_lst {x : Str} {xs : List Str} {d : D} : gInAll (.str x) (.lst (xs.map D.str)) d ↔ d = .bl (decide (x ∈ xs)) := by
  simp [gInAll, gIn, gInS, gInK, flatD]
/-! ### stores into lists and dicts -/
def rSetK : TSet := fun o i v H Q => ∃ a H', o = .ref a ∧ DPut H a i v H' ∧ Q H'
theorem set_dict (hu : X.A.units + 1 < cLine) : PSet X rSetK := by
  intro pins s σ H o i v ov iv u Q I ro ri rv h
  obtain ⟨d, H', ex, g, q⟩ := h
  subst ex
  obtain rfl : ov = Value.ref d := ro
  exact d_setItem hu I g ri rv fun s' J => ⟨H', J, q⟩
theorem PSet.or {t u : TSet} (h : PSet X t) (k : PSet X u) : PSet X (fun o i v H Q => t o i v H Q ∨ u o i v H Q) := fun pins s σ H o i v ov iv w Q I ro ri rv q => by
  rcases q with q | q
  · exact h pins s σ H o i v ov iv w Q I ro ri rv q
  · exact k pins s σ H o i v ov iv w Q I ro ri rv q
def gPut : D → D → D → D → Prop := fun o i v o' => (∃ ds k j, o = .lst ds ∧ i = .int k ∧ ixN ds.length k = some j ∧ o' = .lst (ds.set j v)) ∨ ∃ kvs k, o = .dic kvs ∧ kD i = some k ∧ kvs.length < sizeLine ∧ o' = .dic (putKD kvs k v)
/-- x[e] = v, x an owned name -/
def mPut (i : Nat) (mk mv : ME) : MS := fun K ρ => mv ρ fun rv ρ1 => ∃ v ρ2, esc ρ1 rv = some (v, ρ2) ∧ (∃ dv, ρ2[i]? = some (some dv) ∧ dv.owned = true) ∧ mk ρ2 fun rk ρ3 => ∃ k dv o', rk.get ρ3 = some k ∧ ρ3[i]? = some (some dv) ∧ dv.owned = true ∧ gPut dv.d k v o' ∧ K.nx (ρ3.set i (some (dv.re o')))
theorem ds_put {i : Nat} {x : Str} {p pos' : Pos} {k value : Expr} {mk mv : ME} (hu : X.A.units + 1 < cLine) (ho : PE X (.Name x p) (tVar i)) (hk : DE X E k mk) (hv : DE X E value mv)
    (ha : ∀ v, assign (.Subscript (.Name x p) k pos') X.env v = (do
      let ov ← holding [v] (eval (.Name x p) X.env)
      let iv ← holding [v, ov] (eval k X.env)
      standAt pos'
      holding [v, ov, iv] (setItem ov iv v)
      release [v, ov, iv] []) := by intro _; rfl)
    (hs : swapsWithSole [.Subscript (.Name x p) k pos'] value pos.line X.env = pure false := by rfl) (hw : swappedStores [.Subscript (.Name x p) k pos'] value X.env = pure none := by rfl)
    (h1 : (assignEach [.Subscript (.Name x p) k pos'] X.env).map (·.2) = [assign (.Subscript (.Name x p) k pos') X.env] := by rfl) :
    DS X E (.Assign [.Subscript (.Name x p) k pos'] value pos) (mPut i mk mv) := PS.to (ps_asg hv (pg_sub ho hk (PSet.or set_list (set_dict hu)) ha) hs hw h1) fun Q σ H ⟨F, ρ, P, S, h, ft⟩ =>
  ⟨F, ρ, _, S, h, fun r ρ1 v H1 F1 ⟨d, ρ2, he, ⟨dv0, hi0, hw0⟩, hm⟩ S1 l1 d1 => by
    obtain ⟨F2, l2, S2, r2⟩ := S1.esc d1 he
    obtain ⟨q, hq, hF, own⟩ := S2.ownedIns hi0 hw0
    refine ⟨_, hq, F2, ρ2, _, S2, hm, fun rk ρ3 vk H3 F3 ⟨k, dv, o', gk, hi, hw, gp, hp⟩ S3 l3 d3 => ?_⟩
    obtain ⟨q', hq', hF', own'⟩ := S3.ownedIns hi hw
    rw [hq] at hq'
    cases hq'
    have vk' := S3.view d3 gk
    have rv := r2.mono l3
    rcases gp with ⟨ds, kk, j, e1, e2, e3, e4⟩ | ⟨kvs, kk, e1, e2, e3, e4⟩
    · subst e2; subst e4
      rw [e1] at own'
      obtain ⟨vs, hH, rr⟩ := own'
      refine .inl ⟨q, vs, kk, j, rfl, vk'.int, hH, by rw [rr.length]; exact e3, ?_⟩
      exact ft.nx _ σ _ F3 hp (S3.change hq hi hw (d := .lst (ds.set j d)) ⟨_, upd_same, Reps.set rv j rr⟩) ((l1.trans l2).trans l3)
    · subst e4
      rw [e1] at own'
      obtain ⟨vs, hH, rr⟩ := own'
      refine .inr ⟨q, _, rfl, .inl ⟨vs, kk, hH, kD_v e2 vk', by rw [rr.length]; exact e3, rfl⟩, ?_⟩
      exact ft.nx _ σ _ F3 hp (S3.change hq hi hw (d := .dic (putKD kvs kk d)) ⟨_, upd_same, rr.put rv⟩) ((l1.trans l2).trans l3)⟩
/-! ### xs.append(e), xs.pop() of an owned name -/
def mApp (i : Nat) (m : ME) : MS := fun K ρ => (∃ dv ds, ρ[i]? = some (some dv) ∧ dv.owned = true ∧ dv.d = .lst ds) ∧ m ρ fun r ρ1 => ∃ d ρ2 dv ds, esc ρ1 r = some (d, ρ2) ∧ ρ2[i]? = some (some dv) ∧ dv.owned = true ∧ dv.d = .lst ds ∧ ds.length < sizeLine ∧ K.nx (ρ2.set i (some (dv.re (.lst (ds ++ [d])))))
theorem ds_app {i : Nat} {x : Str} {p apos cpos : Pos} (ho : PE X (.Name x p) (tVar i)) (ha : DE X E e me) (hm : PE X (.Call (.Attribute (.Name x p) "append" apos) [e] [] cpos) (tBM X.K "list" rAppend (tVar i) (tCons (tL E me) tNil)))
    (hs : swapsWith (.Call (.Attribute (.Name x p) "append" apos) [e] [] cpos) none pos.line X.env = pure false := by rfl) : DS X E (.Expr (.Call (.Attribute (.Name x p) "append" apos) [e] [] cpos) pos) (mApp i me) := PS.to (ps_expr hm hs) fun Q σ H ⟨F, ρ, P, S, ⟨⟨dv0, ds0, hi0, hw0, hd0⟩, h⟩, ft⟩ => by
  obtain ⟨q, hq, hF, own⟩ := S.ownedIns hi0 hw0
  rw [hd0] at own
  obtain ⟨vs0, hH0, _⟩ := own
  refine ⟨_, hq, .inl ⟨rfl, _, .of hH0⟩, F, ρ, _, S, h, fun r ρ1 v H1 F1 ⟨d, ρ2, dv, ds, he, hi, hw, hd, hz, hp⟩ S1 l1 d1 => ?_⟩
  obtain ⟨F2, l2, S2, r2⟩ := S1.esc d1 he
  obtain ⟨q', hq', hF', own'⟩ := S2.ownedIns hi hw
  rw [hq] at hq'
  cases hq'
  rw [hd] at own'
  obtain ⟨vs, hH, rr⟩ := own'
  refine ⟨q, vs, v, rfl, rfl, hH, by rw [rr.length]; exact hz, ?_⟩
  exact ft.nx _ σ _ F2 hp (S2.change hq hi hw (d := .lst (ds ++ [d])) ⟨_, upd_same, rr.append (.cons r2 .nil)⟩) (l1.trans l2)
/-! ### two comparisons in a row -/
def mChain (g g' : D → D → D → Prop) (ma mb mc : ME) : ME := fun ρ P => ma ρ fun r1 ρ1 => mb ρ1 fun r2 ρ2 => ∃ d1 d2 k, r1.get ρ2 = some d1 ∧ r2.get ρ2 = some d2 ∧ g d1 d2 (.bl k) ∧ if k = true then mc ρ2 fun r3 ρ3 => ∃ d2 d3 d, r2.get ρ3 = some d2 ∧ r3.get ρ3 = some d3 ∧ g' d2 d3 d ∧ P (.val d) ρ3 else P (.val (.bl false)) ρ2
theorem chain_to {r r' : R2} {g g' : D → D → D → Prop} {mc : ME} (o : OpD r g) (o' : OpD r' g') : ∀ σ H Q, tL E (mChain g g' ma mb mc) σ H Q → tChain r r' (tL E ma) (tL E mb) (tL E mc) σ H Q := fun σ H Q ⟨F, ρ, P, S, hm, k⟩ =>
  ⟨F, ρ, _, S, hm, fun r1 ρ1 v H1 F1 hn S1 l1 d1 => ⟨F1, ρ1, _, S1, hn, fun r2 ρ2 y H2 F2 ⟨x1, x2, kk, g1, g2, g3, hp⟩ S2 l2 d2 =>
    o E F2 H2 σ ρ2 v y x1 x2 (.bl kk) _ S2 (S2.view (d1.mono l2) g1) (S2.view d2 g2) g3 fun w H3 F3 S3 l3 r3 => ⟨kk, (View.bl (H := H3) (.inl r3)), by
      cases kk with
      | true =>
        rw [if_pos rfl]
        exact ⟨F3, ρ2, _, S3, hp, fun r3 ρ4 z H4 F4 ⟨y2, y3, d, e1, e2, e3, hq⟩ S4 l4 d4 =>
          o' E F4 H4 σ ρ4 y z y2 y3 d Q S4 (S4.view (d2.mono (l3.trans l4)) e1) (S4.view d4 e2) e3 fun w H5 F5 S5 l5 r5 => k _ _ _ H5 F5 hq S5 ((((l1.trans l2).trans l3).trans l4).trans l5) r5⟩
      | false =>
        rw [if_neg Bool.false_ne_true]
        exact k _ _ _ H3 F3 hp S3 ((l1.trans l2).trans l3) (.bl _)⟩⟩⟩
theorem de_chain {op op' : CmpOp} {r r' : R2} {g g' : D → D → D → Prop} {c : Expr} {mc : ME} (h : OpR X (compareOp op) r) (o : OpD r g) (h' : OpR X (compareOp op') r') (o' : OpD r' g') (ha : DE X E a ma) (hb : DE X E b mb) (hc : DE X E c mc)
    (hm : lastMarks [op, op'] [b, c] = false := by with_unfolding_all rfl) : DE X E (.Compare a [op, op'] [b, c] pos) (mChain g g' ma mb mc) := PE.to (pe_chain h h' ha hb hc hm) (chain_to o o')
theorem dt_chain {op op' : CmpOp} {r r' : R2} {g g' : D → D → D → Prop} {c : Expr} {mc : ME} (h : OpR X (compareOp op) r) (o : OpD r g) (h' : OpR X (compareOp op') r') (o' : OpD r' g') (ha : DE X E a ma) (hb : DE X E b mb) (hc : DE X E c mc)
    (hm : lastMarks [op, op'] [b, c] = false := by with_unfolding_all rfl) : DT X E (.Compare a [op, op'] [b, c] pos) (mTst (mChain g g' ma mb mc)) := PT.to (pt_chain h h' ha hb hc hm) fun σ H Q hh => by
  obtain ⟨F, ρ, P, S, hm, k⟩ := hh
  exact chain_to (ma := ma) (mb := mb) (mc := mc) o o' σ H _ ⟨F, ρ, _, S, hm, fun r ρ1 v H1 F1 ⟨c, g, hp⟩ S1 l1 d1 => ⟨c, (S1.view d1 g).bl, k _ _ H1 F1 hp S1 l1⟩⟩
end
end DL
/-! DL11: what a def promises in data; its call. -/
namespace DL
open PySem L2
structure DK where
  rt : D → List D → Prop
  ro : D → List D → Prop := fun _ _ => False
  ex : Addr → D → List D → Prop := fun _ _ _ => False
abbrev DSp := List DV → DK → Prop
def bwA : List V → List DV → List Addr
  | .ref p :: vs, .bw _ :: as => p :: bwA vs as
  | _ :: vs, _ :: as => bwA vs as
  | _, _ => []
inductive Args (F : Fz) (H : Hp) : List V → List DV → Prop
  | nil : Args F H [] []
  | fz {v : V} {d : D} {vs : List V} {as : List DV} : Rep F v d → Args F H vs as → Args F H (v :: vs) (.fz d :: as)
  | bw {p : Addr} {d : D} {vs : List V} {as : List DV} : F p = none → Own F H p d → Args F H vs as → Args F H (.ref p :: vs) (.bw d :: as)
inductive News (F : Fz) (H : Hp) : List V → List DV → List D → Prop
  | nil : News F H [] [] []
  | fz {v : V} {d : D} {vs : List V} {as : List DV} {ns : List D} : News F H vs as ns → News F H (v :: vs) (.fz d :: as) ns
  | bw {p : Addr} {d d' : D} {vs : List V} {as : List DV} {ns : List D} : F p = none → Own F H p d' → News F H vs as ns → News F H (.ref p :: vs) (.bw d :: as) (d' :: ns)
structure Back (F : Fz) (H : Hp) (vs : List V) (as : List DV) (F' : Fz) (H' : Hp) (ns : List D) : Prop where
  sits : Sits F' H'
  go : Go F H (· ∈ bwA vs as) F' H' (· ∈ bwA vs as)
  news : News F' H' vs as ns
/-- a promise in data, as the hand layer has it -/
def liftSp (sp : DSp) : Sp := fun vs H Q E => ∃ F as K, Sits F H ∧ Args F H vs as ∧ (bwA vs as).Nodup ∧ sp as K ∧
  (∀ d ns v F' H', K.rt d ns → Back F H vs as F' H' ns → Rep F' v d → Q v H') ∧
  (∀ d ns p F' H', K.ro d ns → Back F H vs as F' H' ns → F' p = none → Own F' H' p d → H p = none → Q (.ref p) H') ∧
  (∀ C d ns dx v F' H', K.ex C d ns → Back F H vs as F' H' ns → F' dx = some (.hard (.xd [("value", v)])) → Rep F' v d → E (.ref C) (some dx) H')
theorem Args.length {F : Fz} {H : Hp} : ∀ {vs : List V} {as : List DV}, Args F H vs as → vs.length = as.length
  | _, _, .nil => rfl
  | _, _, .fz _ r => congrArg (· + 1) r.length
  | _, _, .bw _ _ r => congrArg (· + 1) r.length
theorem Args.at_ {F : Fz} {H : Hp} : ∀ {vs : List V} {as : List DV} {i : Nat} {a : DV}, Args F H vs as → as[i]? = some a → ∃ v, vs[i]? = some v ∧ Den F H v a ∧ ∀ d, a ≠ .ow d
  | _, _, _, _, .nil, e => by simp at e
  | _, _, 0, _, .fz h _, e => by simp at e; subst e; exact ⟨_, rfl, h, fun _ z => by cases z⟩
  | _, _, 0, _, .bw h k _, e => by simp at e; subst e; exact ⟨_, rfl, ⟨_, rfl, h, k⟩, fun _ z => by cases z⟩
  | _, _, i + 1, a, .fz _ r, e => r.at_ (i := i) (a := a) (by simpa using e)
  | _, _, i + 1, a, .bw _ _ r, e => r.at_ (i := i) (a := a) (by simpa using e)
theorem mem_bwA {p : Addr} : ∀ {vs : List V} {as : List DV}, p ∈ bwA vs as → ∃ (i : Nat) (d : D), vs[i]? = some (V.ref p) ∧ as[i]? = some (DV.bw d)
  | [], _, h => by simp [bwA] at h
  | v :: vs, [], h => by simp [bwA] at h
  | v :: vs, a :: as, h => by
    have tail : p ∈ bwA vs as → ∃ (i : Nat) (d : D), (v :: vs)[i]? = some (V.ref p) ∧ (a :: as)[i]? = some (DV.bw d) := fun h => by
      obtain ⟨i, d, e1, e2⟩ := mem_bwA h
      exact ⟨i + 1, d, by simpa using e1, by simpa using e2⟩
    cases v with
    | ref q =>
      cases a with
      | bw d =>
        simp only [bwA, List.mem_cons] at h
        rcases h with rfl | h
        · exact ⟨0, d, rfl, rfl⟩
        · exact tail h
      | fz d => exact tail (by simpa [bwA] using h)
      | ow d => exact tail (by simpa [bwA] using h)
    | _ => exact tail (by simpa [bwA] using h)
theorem bwA_mem {p : Addr} {d : D} : ∀ {vs : List V} {as : List DV} {i : Nat}, vs[i]? = some (.ref p) → as[i]? = some (.bw d) → p ∈ bwA vs as
  | [], _, i, h, _ => by simp at h
  | v :: vs, [], i, _, h => by simp at h
  | v :: vs, a :: as, 0, h1, h2 => by
    simp at h1 h2
    subst h1; subst h2
    simp [bwA]
  | v :: vs, a :: as, i + 1, h1, h2 => by
    have := bwA_mem (vs := vs) (as := as) (i := i) (by simpa using h1) (by simpa using h2)
    cases v with
    | ref q =>
      cases a with
      | bw d => simp [bwA, this]
      | fz d => simpa [bwA] using this
      | ow d => simpa [bwA] using this
    | _ => simpa [bwA] using this
theorem bwA_sep {p : Addr} : ∀ {vs : List V} {as : List DV} {i j : Nat} {d d' : D}, (bwA vs as).Nodup → vs[i]? = some (.ref p) → as[i]? = some (.bw d) → vs[j]? = some (.ref p) → as[j]? = some (.bw d') → i = j
  | [], _, i, j, _, _, _, h, _, _, _ => by simp at h
  | v :: vs, [], i, j, _, _, _, _, h, _, _ => by simp at h
  | v :: vs, a :: as, 0, 0, _, _, _, _, _, _, _ => rfl
  | v :: vs, a :: as, i + 1, j + 1, d, d', n, h1, h2, h3, h4 => by
    have n' : (bwA vs as).Nodup := by
      cases v with
      | ref q =>
        cases a with
        | bw d => simp [bwA] at n; exact n.2
        | fz d => simpa [bwA] using n
        | ow d => simpa [bwA] using n
      | _ => simpa [bwA] using n
    exact congrArg (· + 1) (bwA_sep (vs := vs) (as := as) n' (by simpa using h1) (by simpa using h2) (by simpa using h3) (by simpa using h4))
  | v :: vs, a :: as, 0, j + 1, d, d', n, h1, h2, h3, h4 => by
    simp at h1 h2
    subst h1; subst h2
    have := bwA_mem (vs := vs) (as := as) (i := j) (by simpa using h3) (by simpa using h4)
    simp [bwA] at n
    exact absurd this n.1
  | v :: vs, a :: as, i + 1, 0, d, d', n, h1, h2, h3, h4 => by
    simp at h3 h4
    subst h3; subst h4
    have := bwA_mem (vs := vs) (as := as) (i := i) (by simpa using h1) (by simpa using h2)
    simp [bwA] at n
    exact absurd this n.1
/-! ### a def's body -/
def startD (N : List Str) (as : List DV) : DEnv := as.map some ++ List.replicate (N.length - as.length) none
def newsD : List DV → DEnv → Option (List D)
  | [], _ => some []
  | .bw _ :: as, some (.bw d) :: ρ => (newsD as ρ).map (d :: ·)
  | .bw _ :: _, _ => none
  | _ :: as, _ :: ρ => newsD as ρ
  | _ :: _, [] => none
def endsOf (as : List DV) (K : DK) : DEnds where
  nx := fun ρ => ∃ ns, newsD as ρ = some ns ∧ K.rt .non ns
  rt := fun d ρ => ∃ ns, newsD as ρ = some ns ∧ K.rt d ns
  ro := fun d ρ => ∃ ns, newsD as ρ = some ns ∧ K.ro d ns
def exOf (as : List DV) (K : DK) : Addr → D → DEnv → Prop := fun C d ρ => ∃ ns, newsD as ρ = some ns ∧ K.ex C d ns
theorem news_of {F : Fz} {H : Hp} : ∀ {as : List DV} {vs : List V} {ρ : DEnv} {ns : List D}, newsD as ρ = some ns → vs.length = as.length → (∀ (i : Nat) (d : D), as[i]? ≠ some (DV.ow d)) →
    (∀ (i : Nat) (d d' : D), as[i]? = some (DV.bw d) → ρ[i]? = some (some (DV.bw d')) → ∃ p, vs[i]? = some (V.ref p) ∧ F p = none ∧ Own F H p d') → News F H vs as ns
  | [], [], _, ns, e, _, _, _ => by
    have : [] = ns := Option.some.inj e
    subst this
    exact .nil
  | .fz d :: as, v :: vs, [], ns, e, _, _, _ => by simp [newsD] at e
  | .fz d :: as, v :: vs, x :: ρ, ns, e, hl, no, h => .fz (news_of (as := as) (vs := vs) (ρ := ρ) (by simpa [newsD] using e) (by simpa using hl) (fun i d => by simpa using no (i + 1) d) fun i d d' h1 h2 => by simpa using h (i + 1) d d' (by simpa using h1) (by simpa using h2))
  | .ow d :: as, v :: vs, _, ns, e, _, no, _ => absurd rfl (no 0 d)
  | .bw d :: as, v :: vs, [], ns, e, _, _, _ => by simp [newsD] at e
  | .bw d :: as, v :: vs, none :: ρ, ns, e, _, _, _ => by simp [newsD] at e
  | .bw d :: as, v :: vs, some (.fz _) :: ρ, ns, e, _, _, _ => by simp [newsD] at e
  | .bw d :: as, v :: vs, some (.ow _) :: ρ, ns, e, _, _, _ => by simp [newsD] at e
  | .bw d :: as, v :: vs, some (.bw d') :: ρ, ns, e, hl, no, h => by
    cases q : newsD as ρ with
    | none => simp [newsD, q] at e
    | some ms =>
      simp [newsD, q] at e
      subst e
      obtain ⟨p, e1, e2, e3⟩ := h 0 d d' rfl rfl
      simp at e1
      subst e1
      exact .bw e2 e3 (news_of (as := as) (vs := vs) (ρ := ρ) q (by simpa using hl) (fun i d => by simpa using no (i + 1) d) fun i d d' h1 h2 => by simpa using h (i + 1) d d' (by simpa using h1) (by simpa using h2))
def enOf (F : Fz) (H : Hp) (N : List Str) (vs : List V) (as : List DV) : En := ⟨F, H, (· ∈ bwA vs as), start N vs, fun i => ∃ d, as[i]? = some (.bw d)⟩
section
variable {F : Fz} {H : Hp} {N : List Str} {vs : List V} {as : List DV}
theorem start_get {i : Nat} {v : V} (h : vs[i]? = some v) : (start N vs)[i]? = some (some v) := by
  unfold L2.start
  have hl := (List.getElem?_eq_some_iff.mp h).1
  rw [List.getElem?_append_left (by simpa using hl), List.getElem?_map, h]
  rfl
theorem startD_get {i : Nat} {dv : DV} (h : (startD N as)[i]? = some (some dv)) : as[i]? = some dv := by
  unfold startD at h
  by_cases hl : i < as.length
  · rw [List.getElem?_append_left (by simpa using hl), List.getElem?_map] at h
    cases q : as[i]? with
    | none => rw [q] at h; cases h
    | some a => rw [q] at h; cases h; rfl
  · rw [List.getElem?_append_right (by simpa using hl), List.getElem?_replicate] at h
    split at h <;> cases h
theorem sr_start (s : Sits F H) (ar : Args F H vs as) (nd : (bwA vs as).Nodup) (hN : vs.length ≤ N.length) : SR (enOf F H N vs as) F H (start N vs) (startD N as) := by
  have own : ∀ i p, OwnsAt (start N vs) (startD N as) i p → ∃ d : D, vs[i]? = some (V.ref p) ∧ as[i]? = some (DV.bw d) := fun i p ⟨h1, dv, h2, h3⟩ => by
    have e := startD_get h2
    obtain ⟨v, hv, hd, no⟩ := ar.at_ e
    rw [start_get hv] at h1
    cases h1
    cases dv with
    | fz d => cases h3
    | ow d => exact absurd rfl (no d)
    | bw d => exact ⟨d, hv, e⟩
  refine ⟨s, ?_, fun i dv e => ?_, fun i j p h1 h2 => ?_, fun i d e => ⟨rfl, d, startD_get e⟩, ⟨.refl, fun _ _ h _ _ => h, fun _ _ h => .inl h, fun a ⟨i, h⟩ => ?_, fun _ o h => ⟨o, h⟩⟩⟩
  · unfold L2.start startD
    have := ar.length
    simp
    omega
  · obtain ⟨v, hv, hd, _⟩ := ar.at_ (startD_get e)
    exact ⟨v, start_get hv, hd⟩
  · obtain ⟨d, a, b⟩ := own i p h1
    obtain ⟨d', a', b'⟩ := own j p h2
    exact bwA_sep nd a b a' b'
  · obtain ⟨d, x, y⟩ := own i a h
    exact .inl (bwA_mem x y)
theorem back_of {F' : Fz} {H' : Hp} {σ' : St} {ρ' : DEnv} {ns : List D} (ar : Args F H vs as) (S : SR (enOf F H N vs as) F' H' σ' ρ') (h : newsD as ρ' = some ns) : Back F H vs as F' H' ns := by
  refine ⟨S.sits, ⟨S.go.le, S.go.keep, S.go.fz, fun a z => .inl z, S.go.dom⟩, news_of h ar.length (fun i d e => ?_) fun i d d' h1 h2 => ?_⟩
  · obtain ⟨v, _, _, no⟩ := ar.at_ e
    exact no d rfl
  · obtain ⟨v, hv, hd⟩ := S.at_ i _ h2
    obtain ⟨p, e1, e2, e3⟩ := hd
    have pin := (S.pin i d' h2).1
    obtain ⟨w, hw, _⟩ := ar.at_ h1
    have : (start N vs)[i]? = some (some w) := start_get hw
    rw [show (enOf F H N vs as).s[i]? = some (some w) from this, hv] at pin
    cases pin
    subst e1
    exact ⟨p, hw, e2, e3⟩
theorem bw_kept {F' : Fz} {H' : Hp} {σ' : St} {ρ' : DEnv} {ns : List D} (ar : Args F H vs as) (S : SR (enOf F H N vs as) F' H' σ' ρ') (h : newsD as ρ' = some ns) {i : Nat} {p : Addr} {d : D} (h1 : vs[i]? = some (.ref p)) (h2 : as[i]? = some (.bw d)) : ∃ d' : D, σ'[i]? = some (some (V.ref p)) ∧ ρ'[i]? = some (some (DV.bw d')) := by
  have key : ∀ {as : List DV} {ρ : DEnv} {ns : List D} {i : Nat}, newsD as ρ = some ns → as[i]? = some (.bw d) → ∃ d' : D, ρ[i]? = some (some (DV.bw d')) := by
    intro as
    induction as with
    | nil => intro ρ ns i _ h; simp at h
    | cons a as ih =>
      intro ρ ns i e h
      cases ρ with
      | nil => cases a <;> simp [newsD] at e
      | cons x ρ =>
        cases i with
        | zero =>
          simp at h
          subst h
          cases x with
          | none => simp [newsD] at e
          | some dv => cases dv <;> first | (simp [newsD] at e; done) | exact ⟨_, rfl⟩
        | succ i =>
          have : ∃ ms, newsD as ρ = some ms := by
            cases q : newsD as ρ with
            | some ms => exact ⟨ms, rfl⟩
            | none =>
              cases a with
              | fz d => simp [newsD, q] at e
              | ow d => simp [newsD, q] at e
              | bw d =>
                cases x with
                | none => simp [newsD] at e
                | some dv => cases dv <;> simp [newsD, q] at e
          obtain ⟨ms, hm⟩ := this
          obtain ⟨d', hd⟩ := ih hm (i := i) (by simpa using h)
          exact ⟨d', by simpa using hd⟩
  obtain ⟨d', hd⟩ := key h h2
  obtain ⟨v, hv, _⟩ := S.at_ i _ hd
  have pin := (S.pin i d' hd).1
  have e : (start N vs)[i]? = some (some (.ref p)) := start_get h1
  rw [show (enOf F H N vs as).s[i]? = some (some (.ref p)) from e] at pin
  exact ⟨d', pin.symm, hd⟩
/-- from a body's reading in data to the hand layer's -/
theorem body_to {sp : DSp} {Q : VK} {X : XK} {m : DEnds → (Addr → D → DEnv → Prop) → DEnv → Prop} (h : liftSp sp vs H Q X) (hN : vs.length ≤ N.length)
    (body : ∀ as K, sp as K → m (endsOf as K) (exOf as K) (startD N as)) :
    ∃ F as K, SR (enOf F H N vs as) F H (start N vs) (startD N as) ∧ m (endsOf as K) (exOf as K) (startD N as) ∧ Fits (enOf F H N vs as) F (endsOf as K) { nx := fun _ H' => Q .non H', rt := Q } ∧
      (∀ C d ρ' σ' dx v F' H', exOf as K C d ρ' → SR (enOf F H N vs as) F' H' σ' ρ' → F' dx = some (.hard (.xd [("value", v)])) → Rep F' v d → X (.ref C) (some dx) H') := by
  obtain ⟨F, as, K, s, ar, nd, hs, kr, ko, kx⟩ := h
  refine ⟨F, as, K, sr_start s ar nd hN, body as K hs, ⟨fun ρ' σ' H' F' ⟨ns, e, k⟩ S' _ => kr _ _ _ _ _ k (back_of ar S' e) .non, fun d ρ' σ' v H' F' ⟨ns, e, k⟩ S' _ r => kr _ _ _ _ _ k (back_of ar S' e) r, fun d ρ' σ' p H' F' ⟨ns, e, k⟩ S' _ ⟨r1, r2, r3⟩ => ?_, fun _ _ _ _ z => z.elim, fun _ _ _ _ z => z.elim⟩,
    fun C d ρ' σ' dx v F' H' ⟨ns, e, k⟩ S' hx r => kx C d ns dx v F' H' k (back_of ar S' e) hx r⟩
  refine ko _ _ p _ _ k (back_of ar S' e) r1 r2 ?_
  rcases r3 with z | ⟨i, z1, z2⟩
  · exact z
  · rcases S'.go.own p ⟨i, z1, _, z2, rfl⟩ with z | z
    · obtain ⟨j, d0, y1, y2⟩ := mem_bwA z
      obtain ⟨d1, w1, w2⟩ := bw_kept ar S' e y1 y2
      have := S'.sep i j p ⟨z1, _, z2, rfl⟩ ⟨w1, _, w2, rfl⟩
      subst this
      rw [z2] at w2
      cases w2
    · exact z
end
/-! ### promises where no repr is under way -/
structure RoomG (k : Nat) (A : Around) : Prop where
  r : Room k A
  g : A.guards = some []
theorem RoomG.mono {j k : Nat} {A : Around} (h : RoomG k A) (l : j ≤ k) : RoomG j A := ⟨h.r.mono l, h.g⟩
theorem RoomG.deeper {k : Nat} {A : Around} (h : RoomG (k + 1) A) (env : Env) : RoomG k (A.deeper env) := ⟨h.r.deeper env, h.g⟩
theorem RoomG.in1 {k : Nat} {A : Around} (h : RoomG (k + 1) A) : RoomG k A.in1 := ⟨h.r.in1, h.g⟩
theorem make_guards {A : Around} {C : Addr} {us : List Value} {kw : List (Str × Value)} : (A.under (.builtin "type.__call__" ⟨.ref C :: us, kw⟩)).guards = A.guards := by
  first | rfl | simp [Around.under, Code.weight, Code.isCreation, Code.isGuard, Code.isCaller, Code.frames, Code.isFrame, guardIds]
theorem RoomG.make {k : Nat} {A : Around} (h : RoomG (k + 1) A) (C : Addr) (us : List Value) (kw : List (Str × Value)) : RoomG k (A.under (.builtin "type.__call__" ⟨.ref C :: us, kw⟩)) := ⟨h.r.make C us kw, make_guards.trans h.g⟩
theorem RoomG.units1 {k : Nat} {A : Around} (r : RoomG k A) : A.units + 1 < cLine := by have := r.r.un; omega
theorem RoomG.units66 {k : Nat} {A : Around} (r : RoomG k A) : A.units + 66 < cLine := by have := r.r.un; omega
theorem RoomG.units {k : Nat} {A : Around} (r : RoomG k A) : A.units + 64 < cLine := r.r.units
/-- a promise kept where no repr is under way -/
structure FnG (P : Program) (w : World) (K : PySem.W.Frag) (mg : Str → Option Value) (base : Heap) (CX : CXT) (k : Nat) (f : Addr) (fd : FuncData) (ps : List Str) (sp : Sp) : Prop where
  len : ∀ vs H Q E, sp vs H Q E → vs.length = ps.length
  go : ∀ (A : Around) (outer : List Env) (s : Shared) (H : Hp) (args : PySem.Args) (us : List Value) (vs : List V) (Q : VK) (E : XK), RoomG k A → Env0 P w K mg base A outer s H → BindsTo s fd args (ps.zip us) → Vals vs us → sp vs H Q E →
    codeAny (model P w) A (.call (.ref f) args) (CR CX outer P w H s Q E) s
theorem FnG.of {P : Program} {w : World} {K : PySem.W.Frag} {mg : Str → Option Value} {base : Heap} {CX : CXT} {k : Nat} {f : Addr} {fd : FuncData} {ps : List Str} {sp : Sp} (G : FnOk P w K mg base CX k f fd ps sp) : FnG P w K mg base CX k f fd ps sp :=
  ⟨G.len, fun A outer s H args us vs Q E hr => G.run A outer s H args us vs Q E hr.r⟩
section
open PySem.Spec PyProof.Rows
variable {P : Program} {w : World} {K : PySem.W.Frag} {mg : Str → Option Value} {base : Heap} {CX : CXT} {sp : Sp}
/-- a def's body, by the hand layer's terms -/
theorem fnG_of {x qual : Str} {st : Stmt} {f : Addr} {fd : FuncData} {N ps : List Str} {k : Nat} (F : Fun K x qual st f fd) (S : FnScope N ps (defScope st)) (len : ∀ vs H Q E, sp vs H Q E → vs.length = ps.length)
    (hbody : ∀ (cdv : Value) (A : Around) (outer : List Env) (s : Shared) (H : Hp) (vs : List V) (Q : VK) (E : XK), RoomG k (A.deeper (envOfC qual (defScope st) s.heap.objs.size f cdv)) → sp vs H Q E →
      ∃ t, PSs (cxOf CX P w K mg base N qual (defScope st) f cdv A outer s H E) (defBody st) t ∧ t { nx := fun _ H' => Q .non H', rt := Q } (L2.start N vs) H) : FnG P w K mg base CX (k + 1) f fd ps sp := by
  obtain ⟨oc, od, kV, doc, pm, an, cdv, ct, osl, rfl, lk, hcd⟩ := F.ex
  refine ⟨len, fun A outer s H args us vs Q E hr e0 hb r hsp => ?_⟩
  have hl := len _ _ _ _ hsp
  have kin : K.In s.heap := e0.mod.kin.keeps fun b o z => (e0.bs b o z).1
  have lim : s.heap.NoLimit := e0.mod.nolimit.keeps fun b o z => (e0.bs b o z).1
  have scp : ∀ y ∈ ps.zip us, (defScope st).names.lookup y.1 = some .local ∨ ((defScope st).names.lookup y.1 = some .cell ∧ ((cellsFrom (s.heap.objs.size + 1) (defScope st).names []).lookup y.1).isSome = true) := by
    rintro ⟨n, v⟩ hy
    cases S.par n (List.of_mem_zip hy).1 with
    | inl q => exact .inl q
    | inr q => exact .inr ⟨q, PySem.W.cellsFrom_some _ _ _ (.inl q)⟩
  refine codeAny_call_function hr.r.depth (kin _ _ lk) rfl S.co S.gen rfl (PySem.W.codeRec_of kin hcd) (hb _ _ _ _ (wpAny_newFunctionEnv_cells S.kind scp fun env he s1 z => ?_))
  subst he
  refine ⟨lim.keeps z.toInCall.keep, codeAny_func ?_⟩
  obtain ⟨t, ht, hq⟩ := hbody cdv A outer s H vs Q E (hr.deeper _) hsp
  have I := inv_start (CX := CX) (E := E) S hr.r.hd e0 hl r z
  refine wpAny_mono (ht.run [] s1 (L2.start N vs) H _ I hq) (fun fl s' hs => ?_) fun _ _ hs => hs
  have fin : ∀ {σ' : L2.St} {H' : Hp} {v : V} {u : Value}, Inv (cxOf CX P w K mg base N qual (defScope st) f cdv A outer s H E) [] σ' H' s' → RelV v u → Q v H' → CE outer P w H s Q u s' := by
    intro σ' H' v u J rv q
    exact ⟨v, H', J.os, J.bare, J.base, J.hok, rv, q⟩
  cases fl with
  | next => obtain ⟨σ', H', J, q⟩ := hs; exact fin (v := V.non) (u := Value.none) J rfl q
  | ret u => obtain ⟨v, σ', H', J, rv, q⟩ := hs; exact fin J rv q
  | brk => obtain ⟨_, _, _, q⟩ := hs; exact q.elim
  | cont => obtain ⟨_, _, _, q⟩ := hs; exact q.elim
end
section
variable {X : Cx} {E : En} {e : Expr} {es : List Expr} {p pos : Pos} {x : Str} {f : Addr} {fd : FuncData} {CX : CXT} {k : Nat} {ps : List Str} {ds : List Value} {dvs : List V} {df : List D} {sp : DSp} {ms : List Bool} {EX : DX} {W : WX} {m : MA}
open PySem.Spec PyProof.Rows in
theorem run_fnG {sp : Sp} {W' : L2.St → XK} {pins : List (Addr × Obj)} {σ : L2.St} {H : Hp} {s : Shared} {Q : VK} {us : List Value} {vs : List V} (G : FnG X.prog X.w X.K X.mg X.base CX k f fd ps sp) (hr : RoomG k X.A) (hb : Binds X.K fd ps ds) (hd : Vals dvs ds) (hx : PassesAt CX X σ (W' σ))
    (I : Inv X pins σ H s) (r : Vals vs us) (h : sp (vs ++ dvs) H Q (W' σ)) : wpAny (model X.prog X.w) X.A (call (.ref f) us) (EP X pins σ Q) X.xe s := by
  have rr := r.append hd
  have hl : (us ++ ds).length = ps.length := rr.length.symm.trans (G.len _ _ _ _ h)
  refine wpAny_call (codeAny_mono (G.go X.A X.stack s H ⟨us, []⟩ (us ++ ds) (vs ++ dvs) Q (W' σ) hr I.env0 (hb s us I.kIn hl) rr h) fun z s' hq => ?_)
  cases z with
  | ok fl => cases fl with
    | ret u => exact I.after hq
    | next => exact hq.elim
    | brk => exact hq.elim
    | cont => exact hq.elim
  | error er => exact hx pins H s er s' I hq
open PySem.Spec PyProof.Rows in
theorem pe_callG {sp : Sp} {W' : L2.St → XK} {t : TA} (G : FnG X.prog X.w X.K X.mg X.base CX k f fd ps sp) (hr : RoomG k X.A) (hg : Gl X x) (hm : X.mg x = some (.ref f)) (hk : PySem.W.keepIn X.K (.ref f) = true) (hb : Binds X.K fd ps ds) (hd : Vals dvs ds) (hx : ∀ σ, PassesAt CX X σ (W' σ))
    (ha : PA X (e :: es) t) (hdb : (x == ("__debug__" : Str)) = false := by decide) (he : starEach (e :: es) X.env = (false, eval e X.env) :: starEach es X.env := by rfl) (hpl : (backTo pos (starEach es X.env)).any (·.1) = false := by rfl) :
    PE X (.Call (.Name x p) (e :: es) [] pos) (tCallSD sp dvs W' t) := ⟨fun pins s σ H Q I h =>
  wpAny_Call_Name_kw (ld_glob I hg hm (PySem.W.callWith_K (h₀ := X.base) I.ok.mod.kin hk (thn (ha.run pos pins s σ H _ I h) fun us s1 ⟨vs, H1, I1, r, q⟩ => ⟨I1.kIn, run_fnG G hr hb hd (hx σ) I1 r q⟩) he hpl) hdb)⟩
end
end DL
/-! DL12: calls of defs. -/
namespace DL
open PySem L2
def ownedD : Option (Option DV) → Option D
  | some (some (.ow d)) => some d
  | some (some (.bw d)) => some d
  | _ => none
theorem ownedD_some {o : Option (Option DV)} {d : D} (h : ownedD o = some d) : ∃ dv, o = some (some dv) ∧ dv.owned = true ∧ dv.d = d := by
  match o, h with
  | some (some (.ow x)), h => exact ⟨_, rfl, rfl, Option.some.inj h⟩
  | some (some (.bw x)), h => exact ⟨_, rfl, rfl, Option.some.inj h⟩
/-- the arguments as they are handed in: true where a slot is lent -/
def hand : List Bool → DEnv → List Rf → Option (List DV × DEnv × List Nat)
  | [], ρ, [] => some ([], ρ, [])
  | false :: ms, ρ, r :: rs => (esc ρ r).bind fun p => (hand ms p.2 rs).map fun q => (.fz p.1 :: q.1, q.2.1, q.2.2)
  | true :: ms, ρ, .sl i :: rs => (hand ms ρ rs).bind fun q => if i ∈ q.2.2 then none else (ownedD q.2.1[i]?).map fun d => (.bw d :: q.1, q.2.1, i :: q.2.2)
  | _, _, _ => none
def giveBack : DEnv → List Nat → List D → Option DEnv
  | ρ, [], [] => some ρ
  | ρ, i :: is, d :: ds => match ρ[i]? with
    | some (some dv) => giveBack (ρ.set i (some (dv.re d))) is ds
    | _ => none
  | _, _, _ => none
inductive ArgL (F : Fz) (σ : St) (ρ : DEnv) : List V → List DV → List Nat → Prop
  | nil : ArgL F σ ρ [] [] []
  | fz {v : V} {d : D} {vs : List V} {as : List DV} {is : List Nat} : Rep F v d → ArgL F σ ρ vs as is → ArgL F σ ρ (v :: vs) (.fz d :: as) is
  | bw {v : V} {d : D} {vs : List V} {as : List DV} {is : List Nat} {i : Nat} : σ[i]? = some (some v) → ownedD ρ[i]? = some d → i ∉ is → ArgL F σ ρ vs as is → ArgL F σ ρ (v :: vs) (.bw d :: as) (i :: is)
section
variable {E : En} {F F' : Fz} {H H' : Hp} {σ : St} {ρ ρ' ρ2 : DEnv} {p : Addr}
theorem ArgL.mono (l : Le F F') : ∀ {vs : List V} {as : List DV} {is : List Nat}, ArgL F σ ρ vs as is → ArgL F' σ ρ vs as is
  | _, _, _, .nil => .nil
  | _, _, _, .fz h r => .fz (h.mono l) (r.mono l)
  | _, _, _, .bw a b c r => .bw a b c (r.mono l)
theorem SR.handed : ∀ {ms : List Bool} {rs : List Rf} {vs : List V} {ρ ρ2 : DEnv} {F : Fz} {as : List DV} {is : List Nat}, SR E F H σ ρ → VDens σ F vs rs → hand ms ρ rs = some (as, ρ2, is) → ∃ F2, Le F F2 ∧ SR E F2 H σ ρ2 ∧ ArgL F2 σ ρ2 vs as is
  | [], [], [], ρ, ρ2, F, as, is, S, _, e => by
    simp [hand] at e
    obtain ⟨rfl, rfl, rfl⟩ := e
    exact ⟨F, .refl, S, .nil⟩
  | false :: ms, r :: rs, v :: vs, ρ, ρ2, F, as, is, S, ⟨h, hs⟩, e => by
    unfold hand at e
    cases e1 : DL.esc ρ r with
    | none => simp [e1] at e
    | some q =>
      obtain ⟨d, ρ1⟩ := q
      cases e2 : hand ms ρ1 rs with
      | none => simp [e1, e2] at e
      | some q2 =>
        obtain ⟨as', ρ3, is'⟩ := q2
        simp [e1, e2] at e
        obtain ⟨rfl, rfl, rfl⟩ := e
        obtain ⟨F1, l1, S1, r1⟩ := S.esc h e1
        obtain ⟨F2, l2, S2, a⟩ := SR.handed S1 (hs.mono l1) e2
        exact ⟨F2, l1.trans l2, S2, .fz (r1.mono l2) a⟩
  | true :: ms, .sl i :: rs, v :: vs, ρ, ρ2, F, as, is, S, ⟨h, hs⟩, e => by
    unfold hand at e
    cases e2 : hand ms ρ rs with
    | none => simp [e2] at e
    | some q2 =>
      obtain ⟨as', ρ3, is'⟩ := q2
      simp only [e2, Option.bind_some] at e
      by_cases hi : i ∈ is'
      · simp [hi] at e
      · rw [if_neg hi] at e
        cases e3 : ownedD ρ3[i]? with
        | none => simp [e3] at e
        | some d =>
          simp [e3] at e
          obtain ⟨rfl, rfl, rfl⟩ := e
          obtain ⟨F2, l2, S2, a⟩ := SR.handed S hs e2
          exact ⟨F2, l2, S2, .bw h e3 hi a⟩
theorem ArgL.args (S : SR E F H σ ρ) : ∀ {vs : List V} {as : List DV} {is : List Nat}, ArgL F σ ρ vs as is → Args F H vs as ∧ (bwA vs as).Nodup ∧ ∀ p ∈ bwA vs as, ∃ i ∈ is, OwnsAt σ ρ i p
  | _, _, _, .nil => ⟨.nil, by simp [bwA], fun p h => by simp [bwA] at h⟩
  | _, _, _, .fz (v := v) h r => by
    obtain ⟨a, b, c⟩ := r.args S
    refine ⟨.fz h a, ?_, fun p hp => ?_⟩
    · cases v <;> simpa [bwA] using b
    · exact c p (by cases v <;> simpa [bwA] using hp)
  | _, _, _, .bw (i := i) hv hd hi r => by
    obtain ⟨a, b, c⟩ := r.args S
    obtain ⟨dv, e1, e2, e3⟩ := ownedD_some hd
    obtain ⟨q, hq, hF, own⟩ := S.ownedIns e1 e2
    rw [hv] at hq
    cases hq
    rw [e3] at own
    refine ⟨.bw hF own a, ?_, fun p hp => ?_⟩
    · simp only [bwA, List.nodup_cons]
      refine ⟨fun hq => ?_, b⟩
      obtain ⟨j, hj, oj⟩ := c q hq
      have := S.sep i j q ⟨hv, dv, e1, e2⟩ oj
      exact hi (this ▸ hj)
    · simp only [bwA, List.mem_cons] at hp
      rcases hp with rfl | hp
      · exact ⟨i, by simp, hv, dv, e1, e2⟩
      · obtain ⟨j, hj, oj⟩ := c p hp
        exact ⟨j, by simp [hj], oj⟩
/-! ### behind the call -/
def dropL (ρ : DEnv) : List Nat → DEnv
  | [] => ρ
  | i :: is => (dropL ρ is).set i none
theorem SR.drops (S : SR E F H σ ρ) : ∀ is : List Nat, SR E F H σ (dropL ρ is)
  | [] => S
  | i :: is => (SR.drops S is).drop i
theorem owns_dropL {is : List Nat} {j : Nat} (h : OwnsAt σ (dropL ρ is) j p) : j ∉ is ∧ OwnsAt σ ρ j p := by
  induction is with
  | nil => exact ⟨by simp, h⟩
  | cons i is ih =>
    obtain ⟨a, dv, b, c⟩ := h
    unfold DL.dropL at b
    by_cases e : j = i
    · subst e
      by_cases hl : j < (DL.dropL ρ is).length
      · rw [List.getElem?_set_self hl] at b; cases b
      · rw [List.getElem?_eq_none (by simpa using hl)] at b; cases b
    · rw [List.getElem?_set_ne (Ne.symm e)] at b
      obtain ⟨x, y⟩ := ih ⟨a, dv, b, c⟩
      exact ⟨by simp [e, x], y⟩
theorem dropL_set {is : List Nat} {i : Nat} {x : Option DV} (h : i ∉ is) : dropL (ρ.set i x) is = (dropL ρ is).set i x := by
  induction is with
  | nil => rfl
  | cons j is ih =>
    simp only [List.mem_cons, not_or] at h
    unfold DL.dropL
    rw [ih h.2, List.set_comm _ _ h.1]
/-- a callee has worked on what is lent to it (B) -/
theorem SR.callee (S : SR E F H σ ρ) {B : Addr → Prop} (hB : ∀ p, B p → ¬ Owns σ ρ p) (hE : ∀ p, B p → E.O p ∨ E.H p = none) (g : Go F H B F' H' B) (s : Sits F' H') : SR E F' H' σ ρ where
  sits := s
  len := S.len
  at_ := fun i dv e => by
    obtain ⟨w, h1, h2⟩ := S.at_ i dv e
    refine ⟨w, h1, ?_⟩
    have go : ∀ {q : Addr} {d : D}, w = .ref q → dv.owned = true → F q = none → Own F H q d → F' q = none ∧ Own F' H' q d := fun {q d} e1 e2 e3 e4 => by
      have oq : Owns σ ρ q := ⟨i, by rw [h1, e1], dv, e, e2⟩
      have nb : ¬ B q := fun z => hB q z oq
      obtain ⟨o, ho⟩ := e4.there
      refine ⟨?_, (e4.heap (by
        have z := g.keep q o ho nb fun ⟨d, z⟩ => by rw [e3] at z; cases z
        exact z.trans ho.symm)).mono g.le⟩
      cases z : F' q with
      | none => rfl
      | some fo =>
        rcases g.fz q fo z with y | y | y
        · rw [e3] at y; cases y
        · rw [ho] at y; cases y
        · exact absurd y nb
    cases dv with
    | fz d => exact Rep.mono g.le h2
    | ow d => obtain ⟨q, a, b, c⟩ := h2; obtain ⟨x, y⟩ := go a rfl b c; exact ⟨q, a, x, y⟩
    | bw d => obtain ⟨q, a, b, c⟩ := h2; obtain ⟨x, y⟩ := go a rfl b c; exact ⟨q, a, x, y⟩
  sep := S.sep
  pin := S.pin
  go := ⟨S.go.le.trans g.le, fun a o h1 h2 h3 => by
      have h4 := S.go.keep a o h1 h2 h3
      refine g.keep a o h4 (fun z => ?_) fun ⟨d, z⟩ => ?_
      · rcases hE a z with y | y
        · exact h2 y
        · rw [h1] at y; cases y
      · rcases S.go.fz a _ z with y | y | y
        · exact h3 ⟨d, y⟩
        · rw [h1] at y; cases y
        · exact h2 y, fun a fo h => by
      rcases g.fz a fo h with z | z | z
      · exact S.go.fz a fo z
      · exact .inr (.inl (S.go.free z))
      · rcases hE a z with y | y
        · exact .inr (.inr y)
        · exact .inr (.inl y), S.go.own, fun a o h => by
      obtain ⟨o', h'⟩ := S.go.dom a o h
      exact g.dom a o' h'⟩
/-- a slot that was told empty is told again -/
theorem SR.putAny (S : SR E F H σ ρ) {i : Nat} {dv : DV} {v : V} (hv : σ[i]? = some (some v)) (hd : Den F H v dv) (pin : ∀ d, dv = .bw d → E.s[i]? = σ[i]? ∧ E.B i) (ow : dv.owned = true → ∀ p, v = .ref p → ¬ Owns σ (ρ.set i none) p ∧ (E.O p ∨ E.H p = none)) : SR E F H σ (ρ.set i (some dv)) := by
  have hs : i < σ.length := (List.getElem?_eq_some_iff.mp hv).1
  have hl : i < ρ.length := by rw [← S.len]; exact hs
  have me : ∀ j p, OwnsAt σ (ρ.set i (some dv)) j p → (j = i ∧ v = .ref p ∧ dv.owned = true) ∨ (j ≠ i ∧ OwnsAt σ (ρ.set i none) j p ∧ OwnsAt σ ρ j p) := fun j p ⟨h1, dv', h2, h3⟩ => by
    by_cases q : j = i
    · subst q
      rw [hv] at h1
      cases h1
      rw [List.getElem?_set_self hl] at h2
      cases h2
      exact .inl ⟨rfl, rfl, h3⟩
    · rw [List.getElem?_set_ne (Ne.symm q)] at h2
      exact .inr ⟨q, ⟨h1, dv', by rw [List.getElem?_set_ne (Ne.symm q)]; exact h2, h3⟩, h1, dv', h2, h3⟩
  refine ⟨S.sits, by rw [List.length_set]; exact S.len, fun j dv' e => ?_, fun j k p h1 h2 => ?_, fun j d e => ?_, ⟨S.go.le, S.go.keep, S.go.fz, fun a ⟨j, h⟩ => ?_, S.go.dom⟩⟩
  · by_cases q : j = i
    · subst q
      rw [List.getElem?_set_self hl] at e
      cases e
      exact ⟨v, hv, hd⟩
    · rw [List.getElem?_set_ne (Ne.symm q)] at e
      exact S.at_ j dv' e
  · rcases me j p h1 with ⟨e1, e2, e3⟩ | ⟨n1, o1, o1'⟩
    · rcases me k p h2 with ⟨f1, f2, f3⟩ | ⟨n2, o2, o2'⟩
      · rw [e1, f1]
      · exact absurd ⟨k, o2⟩ (ow e3 p e2).1
    · rcases me k p h2 with ⟨f1, f2, f3⟩ | ⟨n2, o2, o2'⟩
      · exact absurd ⟨j, o1⟩ (ow f3 p f2).1
      · exact S.sep j k p o1' o2'
  · by_cases q : j = i
    · subst q
      rw [List.getElem?_set_self hl] at e
      cases e
      exact pin d rfl
    · rw [List.getElem?_set_ne (Ne.symm q)] at e
      exact S.pin j d e
  · rcases me j a h with ⟨e1, e2, e3⟩ | ⟨n1, o1, o1'⟩
    · exact (ow e3 a e2).2
    · exact S.go.own a ⟨j, o1'⟩
/-- what is given back at one slot -/
structure GiveAt (E : En) (F : Fz) (H : Hp) (σ : St) (ρ : DEnv) (i : Nat) (d : D) (p : Addr) : Prop where
  at_ : σ[i]? = some (some (.ref p))
  dv : ∃ dv, ρ[i]? = some (some dv) ∧ dv.owned = true ∧ ∀ d, dv = .bw d → E.s[i]? = σ[i]? ∧ E.B i
  fz : F p = none
  own : Own F H p d
  en : E.O p ∨ E.H p = none
inductive Gives (E : En) (F : Fz) (H : Hp) (σ : St) (ρ : DEnv) : List Nat → List D → Prop
  | nil : Gives E F H σ ρ [] []
  | cons {i : Nat} {d : D} {p : Addr} {is : List Nat} {ds : List D} : GiveAt E F H σ ρ i d p → i ∉ is → (∀ j ∈ is, ∀ v, σ[j]? = some (some (.ref v)) → v ≠ p) → Gives E F H σ ρ is ds → Gives E F H σ ρ (i :: is) (d :: ds)
theorem Gives.set {i : Nat} {x : Option DV} : ∀ {is : List Nat} {ds : List D}, Gives E F H σ ρ is ds → i ∉ is → Gives E F H σ (ρ.set i x) is ds
  | _, _, .nil, _ => .nil
  | _, _, .cons (i := j) g a b r, h => by
    simp only [List.mem_cons, not_or] at h
    obtain ⟨dv, e1, e2⟩ := g.dv
    exact .cons ⟨g.at_, ⟨dv, by rw [List.getElem?_set_ne h.1]; exact e1, e2⟩, g.fz, g.own, g.en⟩ a b (r.set h.2)
theorem SR.given : ∀ {is : List Nat} {ds : List D} {ρ ρ3 : DEnv}, SR E F H σ (dropL ρ is) → Gives E F H σ ρ is ds → (∀ i ∈ is, ∀ p, σ[i]? = some (some (.ref p)) → ¬ Owns σ (dropL ρ is) p) → giveBack ρ is ds = some ρ3 → SR E F H σ ρ3
  | [], _, ρ, ρ3, S, .nil, _, e => by
    simp [giveBack] at e
    subst e
    exact S
  | i :: is, _, ρ, ρ3, S, .cons (d := d) (p := p) (ds := ds) g a b r, no, e => by
    obtain ⟨dv, e1, e2, e3⟩ := g.dv
    simp only [giveBack, e1] at e
    have S1 := S.putAny (i := i) (dv := dv.re d) g.at_ (by
      cases dv with
      | fz _ => cases e2
      | ow _ => exact ⟨p, rfl, g.fz, g.own⟩
      | bw _ => exact ⟨p, rfl, g.fz, g.own⟩)
      (fun x z => by cases dv with
        | fz _ => cases e2
        | ow _ => cases z
        | bw y => exact e3 y rfl)
      (fun _ q e => by
        cases e
        refine ⟨?_, g.en⟩
        have := no i (by simp) p g.at_
        rw [show (dropL ρ (i :: is)).set i none = dropL ρ (i :: is) from List.set_set ..]
        exact this)
    have eS : (dropL ρ (i :: is)).set i (some (dv.re d)) = dropL (ρ.set i (some (dv.re d))) is := by
      rw [dropL_set a]
      exact List.set_set ..
    rw [eS] at S1
    refine SR.given S1 (r.set a) (fun j hj q hq ⟨k, x⟩ => ?_) e
    obtain ⟨nk, x1, dv', x2, x3⟩ := owns_dropL x
    by_cases ki : k = i
    · subst ki
      rw [g.at_] at x1
      cases x1
      exact b j hj _ hq rfl
    · rw [List.getElem?_set_ne (Ne.symm ki)] at x2
      refine no j (by simp [hj]) q hq ⟨k, x1, dv', ?_, x3⟩
      have : ∀ {is : List Nat}, k ∉ is → (dropL ρ is)[k]? = ρ[k]? := by
        intro is
        induction is with
        | nil => intro _; rfl
        | cons j is ih =>
          intro h
          simp only [List.mem_cons, not_or] at h
          unfold DL.dropL
          rw [List.getElem?_set_ne (Ne.symm h.1)]
          exact ih h.2
      rw [this (by simp [ki, nk])]
      exact x2
theorem gives_of (S : SR E F H σ ρ) : ∀ {vs : List V} {as : List DV} {is : List Nat} {ns : List D}, ArgL F σ ρ vs as is → News F' H' vs as ns → Gives E F' H' σ ρ is ns
  | _, _, _, _, .nil, .nil => .nil
  | _, _, _, _, .fz _ r, .fz s => gives_of S r s
  | _, _, _, _, .bw (i := i) hv hd hi r, .bw hF own s => by
    obtain ⟨dv, e1, e2, e3⟩ := ownedD_some hd
    refine .cons ⟨hv, ⟨dv, e1, e2, fun d z => ?_⟩, hF, own, (S.go.own _ ⟨i, hv, dv, e1, e2⟩)⟩ hi (fun j hj q hq e => ?_) (gives_of S r s)
    · subst z
      exact S.pin i d e1
    · subst e
      have key : ∀ {vs : List V} {as : List DV} {is : List Nat}, ArgL F σ ρ vs as is → j ∈ is → ∃ dv, ρ[j]? = some (some dv) ∧ dv.owned = true := by
        intro vs as is a
        induction a with
        | nil => intro h; cases h
        | fz _ _ ih => exact ih
        | bw a1 a2 _ _ ih =>
          intro h
          rcases List.mem_cons.mp h with rfl | h
          · obtain ⟨dv, y1, y2, _⟩ := ownedD_some a2
            exact ⟨dv, y1, y2⟩
          · exact ih h
      obtain ⟨dv', f1, f2⟩ := key r hj
      have := S.sep i j _ ⟨hv, dv, e1, e2⟩ ⟨hq, dv', f1, f2⟩
      exact hi (this ▸ hj)
theorem SR.behind (S : SR E F H σ ρ) {vs : List V} {as : List DV} {is : List Nat} {ns : List D} {ρ3 : DEnv} (a : ArgL F σ ρ vs as is) (b : Back F H vs as F' H' ns) (g : giveBack ρ is ns = some ρ3) : SR E F' H' σ ρ3 := by
  obtain ⟨ar, nd, ow⟩ := a.args S
  have gv := gives_of S a b.news
  have inB : ∀ q ∈ bwA vs as, ¬ Owns σ (dropL ρ is) q := fun q hq ⟨j, x⟩ => by
    obtain ⟨nj, xj⟩ := owns_dropL x
    obtain ⟨i, hi, oi⟩ := ow q hq
    have := S.sep i j q oi xj
    exact nj (this ▸ hi)
  have S1 : SR E F' H' σ (dropL ρ is) := (S.drops is).callee (B := (· ∈ bwA vs as)) inB (fun q hq => by
    obtain ⟨i, hi, oi⟩ := ow q hq
    exact S.go.own q ⟨i, oi⟩) b.go b.sits
  refine SR.given S1 gv (fun i hi q hq => ?_) g
  have key : ∀ {vs : List V} {as : List DV} {is : List Nat}, ArgL F σ ρ vs as is → Args F H vs as → i ∈ is → q ∈ bwA vs as := by
    intro vs as is a
    induction a with
    | nil => intro _ h; cases h
    | fz _ _ ih =>
      intro ar h
      rename_i v d vs as is _ _
      cases ar with
      | fz _ ar => cases v <;> simpa [bwA] using ih ar h
    | bw a1 a2 _ _ ih =>
      intro ar h
      cases ar with
      | bw _ _ ar =>
        simp only [bwA, List.mem_cons]
        rcases List.mem_cons.mp h with rfl | h
        · rw [a1] at hq
          cases hq
          exact .inl rfl
        · exact .inr (ih ar h)
  exact inB q (key a ar hi)
/-! ### the call -/
/-- what is wished of an exception: of its class, its value, the slots -/
abbrev DX := Addr → D → DEnv → Prop
structure Lk (E : En) (EX : DX) (W : WX) : Prop where
  out : ∀ C d dx v ρ σ F H, EX C d ρ → SR E F H σ ρ → F dx = some (.hard (.xd [("value", v)])) → Rep F v d → W (.ref C) (some dx) σ H
def noX : DX := fun _ _ _ => False
theorem Lk.none {W : WX} : Lk E noX W := ⟨fun _ _ _ _ _ _ _ _ z => z.elim⟩
def dkOf (ρ2 : DEnv) (is : List Nat) (EX : DX) (R O : D → DEnv → Prop) : DK where
  rt := fun d ns => ∃ ρ3, giveBack ρ2 is ns = some ρ3 ∧ R d ρ3
  ro := fun d ns => ∃ ρ3, giveBack ρ2 is ns = some ρ3 ∧ O d ρ3
  ex := fun C d ns => ∃ ρ3, giveBack ρ2 is ns = some ρ3 ∧ EX C d ρ3
theorem Args.more {vs : List V} {as : List DV} : Args F H vs as → ∀ {ws : List V} {ds : List D}, Reps F ws ds → Args F H (vs ++ ws) (as ++ ds.map .fz)
  | .nil, _, _, .nil => .nil
  | .nil, _, _, .cons h r => .fz h (Args.more .nil r)
  | .fz h a, _, _, r => .fz h (a.more r)
  | .bw h k a, _, _, r => .bw h k (a.more r)
theorem bwA_more : ∀ {vs : List V} {as : List DV}, vs.length = as.length → ∀ {ws : List V} {ds : List D}, ws.length = ds.length → bwA (vs ++ ws) (as ++ ds.map .fz) = bwA vs as
  | [], [], _, [], [], _ => rfl
  | [], [], _, w :: ws, d :: ds, h => by
    have := bwA_more (vs := []) (as := []) rfl (ws := ws) (ds := ds) (by simpa using h)
    cases w <;> simpa [bwA] using this
  | v :: vs, a :: as, h, ws, ds, h' => by
    have := bwA_more (vs := vs) (as := as) (by simpa using h) (ws := ws) (ds := ds) h'
    cases v with
    | ref q => cases a <;> simp [bwA, this]
    | _ => simp [bwA, this]
theorem News.less : ∀ {vs : List V} {as : List DV} {ws : List V} {ds : List D} {ns : List D}, vs.length = as.length → ws.length = ds.length → News F H (vs ++ ws) (as ++ ds.map .fz) ns → News F H vs as ns
  | [], [], [], [], _, _, _, h => h
  | [], [], w :: ws, d :: ds, ns, _, h', .fz h => News.less (vs := []) (as := []) (ws := ws) (ds := ds) rfl (by simpa using h') h
  | v :: vs, .fz d :: as, ws, ds, ns, h1, h2, .fz h => .fz (News.less (by simpa using h1) h2 h)
  | _ :: vs, .bw d :: as, ws, ds, _, h1, h2, .bw a b h => .bw a b (News.less (by simpa using h1) h2 h)
  | v :: vs, .ow d :: as, ws, ds, ns, h1, h2, h => by cases h
/-- the promise is asked -/
theorem SR.ask (S : SR E F H σ ρ) {sp : DSp} {vs dvs : List V} {df : List D} {as : List DV} {is : List Nat} {EX : DX} {W : WX} {R O : D → DEnv → Prop} {Q : VK} (a : ArgL F σ ρ vs as is) (hd : Reps F dvs df) (lk : Lk E EX W) (h : sp (as ++ df.map .fz) (dkOf ρ is EX R O))
    (kr : ∀ d ρ3 v H' F', R d ρ3 → SR E F' H' σ ρ3 → Le F F' → Rep F' v d → Q v H') (ko : ∀ d ρ3 p H' F', O d ρ3 → SR E F' H' σ ρ3 → Le F F' → NewAt E F' H' σ ρ3 p d → Q (.ref p) H') : liftSp sp (vs ++ dvs) H Q (WE W σ) := by
  obtain ⟨ar, nd, ow⟩ := a.args S
  have eB := bwA_more ar.length hd.length
  have bk : ∀ {F' : Fz} {H' : Hp} {ns : List D}, Back F H (vs ++ dvs) (as ++ df.map .fz) F' H' ns → Back F H vs as F' H' ns := fun {F' H' ns} b => ⟨b.sits, by have := b.go; rw [eB] at this; exact this, b.news.less ar.length hd.length⟩
  refine ⟨F, _, _, S.sits, ar.more hd, by rw [eB]; exact nd, h, fun d ns v F' H' ⟨ρ3, g, k⟩ b r => ?_, fun d ns p F' H' ⟨ρ3, g, k⟩ b r1 r2 r3 => ?_, fun C d ns dx v F' H' ⟨ρ3, g, k⟩ b hx r => ?_⟩
  · exact kr d ρ3 v H' F' k (S.behind a (bk b) g) b.go.le r
  · have S3 := S.behind a (bk b) g
    refine ko d ρ3 p H' F' k S3 b.go.le ⟨r1, r2, fun ⟨j, x1, dv, x2, x3⟩ => ?_, S.go.free r3⟩
    -- a slot holds what stood ahead of the call
    have key : ∀ {is : List Nat} {ns : List D} {ρ ρ3 : DEnv}, giveBack ρ is ns = some ρ3 → (∃ dv, ρ3[j]? = some (some dv) ∧ dv.owned = true) → ∃ dv, ρ[j]? = some (some dv) ∧ dv.owned = true := by
      intro is
      induction is with
      | nil =>
        intro ns ρ ρ3 e h
        cases ns with
        | nil => simp [giveBack] at e; subst e; exact h
        | cons _ _ => simp [giveBack] at e
      | cons i is ih =>
        intro ns ρ ρ3 e h
        cases ns with
        | nil => simp [giveBack] at e
        | cons n ns =>
          cases q : ρ[i]? with
          | none => simp [giveBack, q] at e
          | some o =>
            cases o with
            | none => simp [giveBack, q] at e
            | some dv0 =>
              simp only [giveBack, q] at e
              obtain ⟨dv1, y1, y2⟩ := ih e h
              by_cases ji : j = i
              · subst ji
                rw [List.getElem?_set_self (List.getElem?_eq_some_iff.mp q).1] at y1
                cases y1
                exact ⟨dv0, q, by cases dv0 <;> first | exact y2 | rfl⟩
              · rw [List.getElem?_set_ne (Ne.symm ji)] at y1
                exact ⟨dv1, y1, y2⟩
    obtain ⟨dv1, y1, y2⟩ := key g ⟨dv, x2, x3⟩
    obtain ⟨_, o, ho⟩ := S.owned ⟨j, x1, dv1, y1, y2⟩
    rw [r3] at ho; cases ho
  · exact lk.out C d dx v ρ3 σ F' H' k (S.behind a (bk b) g) hx r
end
section
variable {X : Cx} {E : En} {e : Expr} {es : List Expr} {p pos : Pos} {x : Str} {f : Addr} {fd : FuncData} {CX : CXT} {k : Nat} {ps : List Str} {ds : List Value} {dvs : List V} {df : List D} {sp : DSp} {ms : List Bool} {EX : DX} {W : WX} {m : MA}
def mCall (sp : DSp) (ms : List Bool) (df : List D) (EX : DX) (m : MA) : ME := fun ρ P => m ρ fun rs ρ1 => ∃ as ρ2 is, hand ms ρ1 rs = some (as, ρ2, is) ∧ sp (as ++ df.map .fz) (dkOf ρ2 is EX (fun d ρ3 => P (.val d) ρ3) fun d ρ3 => P (.val d) ρ3)
def mCallO (sp : DSp) (ms : List Bool) (df : List D) (EX : DX) (m : MA) : MO := fun ρ P => m ρ fun rs ρ1 => ∃ as ρ2 is, hand ms ρ1 rs = some (as, ρ2, is) ∧ sp (as ++ df.map .fz) (dkOf ρ2 is EX (fun _ _ => False) fun d ρ3 => P d ρ3)
abbrev PassW (CX : CXT) (X : Cx) (W : WX) : Prop := ∀ σ, PassesAt CX X σ (WE W σ)
theorem passW0 {X : Cx} {W : WX} : PassW CX0 X W := fun _ _ _ _ _ _ _ h => h.elim
theorem call_to (lk : Lk E EX W) (hdf : ∀ F, Reps F dvs df) : ∀ σ H Q, tL E (mCall sp ms df EX m) σ H Q → tCallSD (liftSp sp) dvs (WE W) (tLA E m) σ H Q := fun σ H Q ⟨F, ρ, P, S, hm, k⟩ =>
  ⟨F, ρ, _, S, hm, fun rs ρ1 vs H1 F1 ⟨as, ρ2, is, hh, hs⟩ S1 l1 d1 => by
    obtain ⟨F2, l2, S2, a⟩ := SR.handed S1 d1 hh
    refine S2.ask a (hdf F2) lk hs (fun d ρ3 v H' F' hp S' l' r => k _ _ _ H' F' hp S' ((l1.trans l2).trans l') r) fun d ρ3 p H' F' hp S' l' N => ?_
    obtain ⟨F4, l4, S4, r4⟩ := S'.freeze N
    exact k _ _ _ H' F4 hp S4 (((l1.trans l2).trans l').trans l4) r4⟩
theorem callO_to (lk : Lk E EX W) (hdf : ∀ F, Reps F dvs df) : ∀ σ H Q, tLO E (mCallO sp ms df EX m) σ H Q → tCallSD (liftSp sp) dvs (WE W) (tLA E m) σ H Q := fun σ H Q ⟨F, ρ, P, S, hm, k⟩ =>
  ⟨F, ρ, _, S, hm, fun rs ρ1 vs H1 F1 ⟨as, ρ2, is, hh, hs⟩ S1 l1 d1 => by
    obtain ⟨F2, l2, S2, a⟩ := SR.handed S1 d1 hh
    exact S2.ask a (hdf F2) lk hs (fun d ρ3 v H' F' hp S' l' r => hp.elim) fun d ρ3 p H' F' hp S' l' N => k _ _ _ H' F' hp S' ((l1.trans l2).trans l') N⟩
theorem de_call (G : FnG X.prog X.w X.K X.mg X.base CX k f fd ps (liftSp sp)) (hr : RoomG k X.A) (hg : Gl X x) (hm : X.mg x = some (.ref f)) (hk : PySem.W.keepIn X.K (.ref f) = true) (hb : Binds X.K fd ps ds) (hd : Vals dvs ds) (hdf : ∀ F, Reps F dvs df) (lk : Lk E EX W) (hx : PassW CX X W) (ms : List Bool)
    (ha : DA X E (e :: es) m) (hdb : (x == ("__debug__" : Str)) = false := by decide) (he : starEach (e :: es) X.env = (false, eval e X.env) :: starEach es X.env := by rfl) (hpl : (backTo pos (starEach es X.env)).any (·.1) = false := by rfl) :
    DE X E (.Call (.Name x p) (e :: es) [] pos) (mCall sp ms df EX m) := PE.to (pe_callG G hr hg hm hk hb hd hx ha hdb he hpl) (call_to lk hdf)
theorem do_call (G : FnG X.prog X.w X.K X.mg X.base CX k f fd ps (liftSp sp)) (hr : RoomG k X.A) (hg : Gl X x) (hm : X.mg x = some (.ref f)) (hk : PySem.W.keepIn X.K (.ref f) = true) (hb : Binds X.K fd ps ds) (hd : Vals dvs ds) (hdf : ∀ F, Reps F dvs df) (lk : Lk E EX W) (hx : PassW CX X W) (ms : List Bool)
    (ha : DA X E (e :: es) m) (hdb : (x == ("__debug__" : Str)) = false := by decide) (he : starEach (e :: es) X.env = (false, eval e X.env) :: starEach es X.env := by rfl) (hpl : (backTo pos (starEach es X.env)).any (·.1) = false := by rfl) :
    DO X E (.Call (.Name x p) (e :: es) [] pos) (mCallO sp ms df EX m) := PE.to (pe_callG G hr hg hm hk hb hd hx ha hdb he hpl) (callO_to lk hdf)
end
end DL
/-! DL13: defs, methods, making, raising. -/
namespace DL
open PySem L2
section
variable {P : Program} {w : World} {K : PySem.W.Frag} {mg : Str → Option Value} {base : Heap}
theorem lift_len {sp : DSp} {n : Nat} (len : ∀ as k, sp as k → as.length = n) : ∀ vs H Q E, liftSp sp vs H Q E → vs.length = n := fun vs H Q E ⟨F, as, k, _, ar, _, hs, _⟩ => by
  rw [ar.length]
  exact len as k hs
end
/-! ### raise X(e), the class with the inherited __init__ that stores value -/
/-- what that __init__ promises -/
def spErr (K : PySem.W.Frag) : Sp := fun vs H Q _ => ∃ a C v, vs = [.ref a, v] ∧ OexC K C ∧ PySem.W.findIn K (.ref C) "value" = some none ∧ H a = some (exo a C none) ∧
  ∀ dx, H dx = none → dx ≠ a → Q .non (upd (upd H dx (exd dx [("value", v)])) a (exo a C (some dx)))
/-- what the top says of an error's class at C -/
structure ErrC (K : PySem.W.Frag) (mg : Str → Option Value) (x : Str) (C fI : Addr) : Prop where
  gC : mg x = some (.ref C)
  oex : OexC K C
  noV : PySem.W.findIn K (.ref C) "value" = some none
  init : PySem.W.findIn K (.ref C) "__init__" = some (some (.ref fI))
section
variable {X : Cx} {E : En} {e o : Expr} {es : List Expr} {p pos apos : Pos} {x m : Str} {f fI C : Addr} {fd : FuncData} {CX : CXT} {k : Nat} {ps : List Str} {ds : List Value} {dvs : List V} {df : List D} {sp : DSp} {ms : List Bool} {EX : DX} {W : WX} {ma : MA} {me mo : ME}
def mRaise (C : Addr) (EX : DX) (m : ME) : MS := fun _ ρ => m ρ fun r ρ1 => ∃ d ρ2, esc ρ1 r = some (d, ρ2) ∧ EX C d ρ2
theorem ds_raise (hc : X.calm = true) (tk : Takes X W) (lk : Lk E EX W) (T : ErrC X.K X.mg x C fI) (tI : PySem.W.typeIn X.K (.ref fI) = some (.type "function")) (G : FnOk X.prog X.w X.K X.mg X.base CX0 k fI fd ps (spErr X.K)) (hr : Room (k + 1) X.A) (hb : Binds X.K fd ps []) (hg : Gl X x)
    (ha : DE X E e me) (hs : starEach [e] X.env = (false, eval e X.env) :: starEach [] X.env := by rfl) (hdb : (x == ("__debug__" : Str)) = false := by decide) (hpl : (backTo pos (starEach [] X.env)).any (·.1) = false := by rfl) {rpos : Pos} :
    DS X E (.Raise (some (.Call (.Name x p) [e] [] pos)) none rpos) (mRaise C EX me) := PS.to (ps_raise hc tk (pmk_oex T.oex T.init tI G hr hb .nil (fun _ _ _ _ _ _ _ h => h.elim) hg T.gC (pa_cons ha pa_nil hs) hdb hs hpl)) fun Q σ H ⟨F, ρ, P, S, h, f⟩ =>
  ⟨F, ρ, _, S, h, fun r ρ1 v H1 F1 ⟨d, ρ2, he, hx⟩ S1 l1 d1 => by
    obtain ⟨F2, l2, S2, r2⟩ := S1.esc d1 he
    refine ⟨by show 1 ≤ 1000; decide, fun a hn => ⟨a, C, v, rfl, T.oex, T.noV, upd_same, fun dx hdx ne => ⟨rfl, dx, [("value", v)], upd_same, ?_, ?_, ?_⟩⟩⟩
    · rw [upd_ne ne, upd_same]
    · rw [upd_ne ne] at hdx
      exact hdx
    · have hdx' : H1 dx = none := by rw [upd_ne ne] at hdx; exact hdx
      have eH : upd (del (upd (upd (upd H1 a (exo a C none)) dx (exd dx [("value", v)])) a (exo a C (some dx))) a) dx (.xd [("value", v)]) = upd H1 dx (.xd [("value", v)]) := by
        funext b
        by_cases h1 : b = dx
        · subst h1; rw [upd_same, upd_same]
        · rw [upd_ne h1, upd_ne h1]
          by_cases h2 : b = a
          · subst h2; rw [del_same, hn]
          · rw [del_ne h2, upd_ne h2, upd_ne h1, upd_ne h2]
      rw [eH]
      obtain ⟨S3, l3⟩ := S2.layF (o := .xd [("value", v)]) hdx'
      exact lk.out C d dx v ρ2 σ _ _ hx S3 updF_same (r2.mono l3)⟩
/-! ### methods -/
def tMethW (C : Addr) (m : Str) (sp : Sp) (dvs : List V) (E : L2.St → XK) (ta : TE) (t : TA) : TE := fun σ H Q => ta σ H fun x H1 => ∃ a dx fs, x = .ref a ∧ H1 a = some (.ins C dx fs) ∧ fs.lookup m = none ∧
  t σ H1 fun vs H2 => sp (.ref a :: (vs ++ dvs)) H2 Q (E σ)
open PySem.Spec PyProof.Rows in
theorem pe_methW {sp : Sp} {ta : TE} {t : TA} {E : L2.St → XK} {pl : Sem Bool} (he : PE X o ta) (c : Cls X.K C) (hm : Meth X.K C m f) (G : FnG X.prog X.w X.K X.mg X.base CX k f fd ps sp) (hr : RoomG k X.A) (hb : Binds X.K fd ps ds) (hd : Vals dvs ds) (hx : ∀ σ, PassesAt CX X σ (E σ)) (ha : PA X (e :: es) t)
    (ht : eval (.Call (.Attribute o m apos) (e :: es) [] pos) X.env = (do
      let ov ← eval o X.env
      standAt apos.atName
      let (f, first) ← holding [ov] (getMethod ov m pl)
      callWith pos f first (backTo pos (starEach (e :: es) X.env)) (backToKw pos (keywordEach [] X.env))) := by rfl)
    (hst : starEach (e :: es) X.env = (false, eval e X.env) :: starEach es X.env := by rfl) (hpl : (backTo pos (starEach es X.env)).any (·.1) = false := by rfl) :
    PE X (.Call (.Attribute o m apos) (e :: es) [] pos) (tMethW C m sp dvs E ta t) := by
  refine ⟨fun pins s σ H Q I h => ?_⟩
  refine PySem.W.methodCall_KW (pl := pl) (thn (he.run pins s σ H _ I h) fun u s1 ⟨x, H1, I1, rx, a, dx, fs, ex, ea, l, q⟩ => ?_) ht
  subst ex
  obtain rfl : u = Value.ref a := rx
  refine getmeth_ok I1 ea c hm l ?_
  refine PySem.W.callWith_K (first := [.ref a]) (h₀ := X.base) I.ok.mod.kin hm.kp (thn (ha.run pos pins s1 σ H1 _ I1 q) fun us s2 ⟨vs, H2, I2, r, q2⟩ => ⟨I2.kIn, ?_⟩) hst hpl
  exact run_fnG (us := .ref a :: us) (vs := .ref a :: vs) G hr hb hd (hx σ) I2 (.cons rfl r) q2
open PySem.Spec PyProof.Rows in
theorem pe_methW0 {sp : Sp} {ta : TE} {E : L2.St → XK} {pl : Sem Bool} (he : PE X o ta) (c : Cls X.K C) (hm : Meth X.K C m f) (G : FnG X.prog X.w X.K X.mg X.base CX k f fd ps sp) (hr : RoomG k X.A) (hb : Binds X.K fd ps ds) (hd : Vals dvs ds) (hx : ∀ σ, PassesAt CX X σ (E σ))
    (ht : eval (.Call (.Attribute o m apos) [] [] pos) X.env = (do
      let ov ← eval o X.env
      standAt apos.atName
      let (f, first) ← holding [ov] (getMethod ov m pl)
      callWith pos f first (backTo pos (starEach [] X.env)) (backToKw pos (keywordEach [] X.env))) := by rfl) :
    PE X (.Call (.Attribute o m apos) [] [] pos) (tMethW C m sp dvs E ta tNil) := by
  refine ⟨fun pins s σ H Q I h => ?_⟩
  refine PySem.W.methodCall_KW (pl := pl) (thn (he.run pins s σ H _ I h) fun u s1 ⟨x, H1, I1, rx, a, dx, fs, ex, ea, l, q⟩ => ?_) ht
  subst ex
  obtain rfl : u = Value.ref a := rx
  refine getmeth_ok I1 ea c hm l ?_
  exact PySem.W.callWith_K0 (first := [.ref a]) I1.kIn hm.kp (run_fnG (us := [.ref a]) (vs := [.ref a]) G hr hb hd (hx σ) I1 (.cons rfl .nil) q)
def mMeth (C : Addr) (m : Str) (sp : DSp) (ms : List Bool) (df : List D) (EX : DX) (mo : ME) (ma : MA) : ME := fun ρ P => mo ρ fun r0 ρ1 => (∃ fs, r0.get ρ1 = some (.ins C fs) ∧ fs.lookup m = none) ∧ ma ρ1 fun rs ρ2 => ∃ as ρ3 is, hand ms ρ2 (r0 :: rs) = some (as, ρ3, is) ∧
  sp (as ++ df.map .fz) (dkOf ρ3 is EX (fun d ρ4 => P (.val d) ρ4) fun d ρ4 => P (.val d) ρ4)
def mMethO (C : Addr) (m : Str) (sp : DSp) (ms : List Bool) (df : List D) (EX : DX) (mo : ME) (ma : MA) : MO := fun ρ P => mo ρ fun r0 ρ1 => (∃ fs, r0.get ρ1 = some (.ins C fs) ∧ fs.lookup m = none) ∧ ma ρ1 fun rs ρ2 => ∃ as ρ3 is, hand ms ρ2 (r0 :: rs) = some (as, ρ3, is) ∧
  sp (as ++ df.map .fz) (dkOf ρ3 is EX (fun _ _ => False) fun d ρ4 => P d ρ4)
theorem meth_to (lk : Lk E EX W) (hdf : ∀ F, Reps F dvs df) : ∀ σ H Q, tL E (mMeth C m sp ms df EX mo ma) σ H Q → tMethW C m (liftSp sp) dvs (WE W) (tL E mo) (tLA E ma) σ H Q := fun σ H Q ⟨F, ρ, P, S, hm, k⟩ =>
  ⟨F, ρ, _, S, hm, fun r0 ρ1 v H1 F1 ⟨⟨fs, g, gl⟩, h2⟩ S1 l1 d1 => by
    obtain ⟨a, dx, vs, e, hH, rr⟩ := (S1.view d1 g).ins S1.sits
    subst e
    refine ⟨a, dx, vs, rfl, hH, rr.lookup_none gl, F1, ρ1, _, S1, h2, fun rs ρ2 vs H2 F2 ⟨as, ρ3, is, hh, hs⟩ S2 l2 d2 => ?_⟩
    obtain ⟨F3, l3, S3, a3⟩ := SR.handed (vs := .ref a :: vs) (rs := r0 :: rs) S2 ⟨d1.mono l2, d2⟩ hh
    refine S3.ask a3 (hdf F3) lk hs (fun d ρ3 v H' F' hp S' l' r => k _ _ _ H' F' hp S' (((l1.trans l2).trans l3).trans l') r) fun d ρ3 p H' F' hp S' l' N => ?_
    obtain ⟨F4, l4, S4, r4⟩ := S'.freeze N
    exact k _ _ _ H' F4 hp S4 ((((l1.trans l2).trans l3).trans l').trans l4) r4⟩
theorem methO_to (lk : Lk E EX W) (hdf : ∀ F, Reps F dvs df) : ∀ σ H Q, tLO E (mMethO C m sp ms df EX mo ma) σ H Q → tMethW C m (liftSp sp) dvs (WE W) (tL E mo) (tLA E ma) σ H Q := fun σ H Q ⟨F, ρ, P, S, hm, k⟩ =>
  ⟨F, ρ, _, S, hm, fun r0 ρ1 v H1 F1 ⟨⟨fs, g, gl⟩, h2⟩ S1 l1 d1 => by
    obtain ⟨a, dx, vs, e, hH, rr⟩ := (S1.view d1 g).ins S1.sits
    subst e
    refine ⟨a, dx, vs, rfl, hH, rr.lookup_none gl, F1, ρ1, _, S1, h2, fun rs ρ2 vs H2 F2 ⟨as, ρ3, is, hh, hs⟩ S2 l2 d2 => ?_⟩
    obtain ⟨F3, l3, S3, a3⟩ := SR.handed (vs := .ref a :: vs) (rs := r0 :: rs) S2 ⟨d1.mono l2, d2⟩ hh
    exact S3.ask a3 (hdf F3) lk hs (fun d ρ3 v H' F' hp S' l' r => hp.elim) fun d ρ3 p H' F' hp S' l' N => k _ _ _ H' F' hp S' (((l1.trans l2).trans l3).trans l') N⟩
theorem tMethW_nil {sp : Sp} {ta : TE} {W' : L2.St → XK} {σ : L2.St} {H : Hp} {Q : VK} (h : tMethW C m sp dvs W' ta (tLA E mNil) σ H Q) (mono : ∀ (R R' : V → Hp → Prop), (∀ v H, R v H → R' v H) → ta σ H R → ta σ H R') : tMethW C m sp dvs W' ta tNil σ H Q :=
  mono _ _ (fun v H1 ⟨a, dx, fs, e, ea, l, F, ρ, P, S, hp, k⟩ => ⟨a, dx, fs, e, ea, l, k [] ρ [] H1 F hp S .refl trivial⟩) h
theorem tL_mono {m : ME} {σ : L2.St} {H : Hp} (R R' : V → Hp → Prop) (h : ∀ v H, R v H → R' v H) : tL E m σ H R → tL E m σ H R' := fun ⟨F, ρ, P, S, hm, k⟩ => ⟨F, ρ, P, S, hm, fun r ρ' v H' F' hp S' l d => h _ _ (k r ρ' v H' F' hp S' l d)⟩
open PySem.Spec PyProof.Rows in
theorem de_meth0 {pl : Sem Bool} (he : DE X E o mo) (c : Cls X.K C) (hm : Meth X.K C m f) (G : FnG X.prog X.w X.K X.mg X.base CX k f fd ps (liftSp sp)) (hr : RoomG k X.A) (hb : Binds X.K fd ps ds) (hd : Vals dvs ds) (hdf : ∀ F, Reps F dvs df) (lk : Lk E EX W) (hx : PassW CX X W) (ms : List Bool)
    (ht : eval (.Call (.Attribute o m apos) [] [] pos) X.env = (do
      let ov ← eval o X.env
      standAt apos.atName
      let (f, first) ← holding [ov] (getMethod ov m pl)
      callWith pos f first (backTo pos (starEach [] X.env)) (backToKw pos (keywordEach [] X.env))) := by rfl) :
    DE X E (.Call (.Attribute o m apos) [] [] pos) (mMeth C m sp ms df EX mo mNil) := PE.to (pe_methW0 he c hm G hr hb hd hx ht) fun σ H Q h => tMethW_nil (meth_to lk hdf σ H Q h) tL_mono
open PySem.Spec PyProof.Rows in
theorem de_meth {pl : Sem Bool} (he : DE X E o mo) (c : Cls X.K C) (hm : Meth X.K C m f) (G : FnG X.prog X.w X.K X.mg X.base CX k f fd ps (liftSp sp)) (hr : RoomG k X.A) (hb : Binds X.K fd ps ds) (hd : Vals dvs ds) (hdf : ∀ F, Reps F dvs df) (lk : Lk E EX W) (hx : PassW CX X W) (ms : List Bool) (ha : DA X E (e :: es) ma)
    (ht : eval (.Call (.Attribute o m apos) (e :: es) [] pos) X.env = (do
      let ov ← eval o X.env
      standAt apos.atName
      let (f, first) ← holding [ov] (getMethod ov m pl)
      callWith pos f first (backTo pos (starEach (e :: es) X.env)) (backToKw pos (keywordEach [] X.env))) := by rfl)
    (hst : starEach (e :: es) X.env = (false, eval e X.env) :: starEach es X.env := by rfl) (hpl : (backTo pos (starEach es X.env)).any (·.1) = false := by rfl) :
    DE X E (.Call (.Attribute o m apos) (e :: es) [] pos) (mMeth C m sp ms df EX mo ma) := PE.to (pe_methW he c hm G hr hb hd hx ha ht hst hpl) (meth_to lk hdf)
/-! ### properties -/
section
variable {Xp : Cx} {CXp : CXT} {kp : Nat} {Cp pp gp ap dxp : Addr} {fsp : List (Str × V)} {fp : Str} {fdp : FuncData} {psp : List Str} {spp : Sp} {Ep : XK} {ep : Expr} {posp : Pos} {tap : TE}
open PySem.Spec PyProof.Rows in
theorem getpropG {pins : List (Addr × Obj)} {σ : L2.St} {H : Hp} {s : Shared} {Q : VK} {b : Bool} {E' : Value → Shared → Prop} (I : Inv Xp pins σ H s) (ea : H ap = some (.ins Cp dxp fsp)) (c : Cls Xp.K Cp) (hp : PropOf Xp.K Cp fp pp gp)
    (G : FnG Xp.prog Xp.w Xp.K Xp.mg Xp.base CXp kp gp fdp psp spp) (hr : RoomG (kp + 1) Xp.A) (hb : Binds Xp.K fdp psp []) (hx : Passes CXp Xp.nox Ep) (h : spp [.ref ap] H Q Ep) :
    wpAny (model Xp.prog Xp.w) Xp.A (getAttr (.ref ap) fp b) (EP Xp pins σ Q) E' s := by
  obtain ⟨_, O, _, _, _, _⟩ := ins_get I.hok ea
  obtain ⟨_, J, _⟩ := O.look
  obtain ⟨_, hrec⟩ := hp.rec_
  have It := I.tok (s.toks + 1)
  have ln : ([Value.ref ap] ++ []).length = psp.length := by rw [← G.len _ _ _ _ h]; rfl
  have isS : (PySem.W.clsIn Xp.K Cp).isSome = true := by
    obtain ⟨_, hcd, _⟩ := PySem.W.any_some c.hd
    rw [hcd]; rfl
  have p0 := PySem.W.plainGet_of (c.get fp)
  refine PySem.W.get_bind I.kIn J p0.1 (PySem.W.findObj_data isS hp.at_ hp.get hp.tak) p0.2 (wpAny_call (PySem.W.prop_get (s := { s with toks := s.toks + 1 }) I.kIn hrec ?_))
  refine codeAny_mono (G.go Xp.A.in1 Xp.stack { s with toks := s.toks + 1 } H ⟨[.ref ap], []⟩ [.ref ap] [.ref ap] Q Ep hr.in1 It.env0.in1 (hb _ [.ref ap] It.kIn ln) (.cons rfl .nil) h) fun z sz hz => ?_
  match z, hz with
  | .error er, hz => exact (hx pins σ H { s with toks := s.toks + 1 } er sz (It.wish _) hz).elim
  | .ok (.ret u), hz =>
    obtain ⟨v, H', I3, rv, q3⟩ := It.after hz
    show wpAny _ _ (handedOut u) _ _ _
    rw [PySem.W.handedOut_of (handed_of rv)]
    exact wpAny_pure ⟨v, H', I3, rv, q3⟩
  | .ok .next, hz => exact hz.elim
  | .ok .brk, hz => exact hz.elim
  | .ok .cont, hz => exact hz.elim
open PySem.Spec PyProof.Rows in
theorem pe_propG (he : PE Xp ep tap) (c : Cls Xp.K Cp) (hp : PropOf Xp.K Cp fp pp gp) (G : FnG Xp.prog Xp.w Xp.K Xp.mg Xp.base CXp kp gp fdp psp spp) (hr : RoomG (kp + 1) Xp.A) (hb : Binds Xp.K fdp psp []) (hx : Passes CXp Xp.nox Ep)
    (hab : attributeBase ep fp Xp.env (eval ep Xp.env) = eval ep Xp.env) : PE Xp (.Attribute ep fp posp) (tProp Cp spp [] Ep tap) := ⟨fun pins s σ H Q I h =>
  attr_of hab (thn (he.run pins s σ H _ I h) fun u s1 ⟨x, H1, I1, rx, a, dx, fs, ex, ea, q⟩ => by
    cases ex
    cases (show u = Value.ref a from rx)
    exact getpropG I1 ea c hp G hr hb hx q)⟩
end
def mProp (C : Addr) (sp : DSp) (m : ME) : ME := fun ρ P => m ρ fun r ρ1 => ∃ d ρ2 fs, esc ρ1 r = some (d, ρ2) ∧ d = .ins C fs ∧ sp [.fz d] (dkOf ρ2 [] noX (fun d ρ3 => P (.val d) ρ3) fun d ρ3 => P (.val d) ρ3)
theorem de_prop {g : Addr} {q : Addr} (he : DE X E e me) (c : Cls X.K C) (hp : PropOf X.K C m q g) (G : FnG X.prog X.w X.K X.mg X.base CX0 k g fd ps (liftSp sp)) (hr : RoomG (k + 1) X.A) (hb : Binds X.K fd ps []) (hab : attributeBase e m X.env (eval e X.env) = eval e X.env := by rfl) :
    DE X E (.Attribute e m pos) (mProp C sp me) := PE.to (pe_propG (Ep := fun _ _ _ => False) he c hp G hr hb (fun _ _ _ _ _ _ _ h => h.elim) hab) fun σ H Q ⟨F, ρ, P, S, hm, kk⟩ =>
  ⟨F, ρ, _, S, hm, fun r ρ1 v H1 F1 ⟨d, ρ2, fs, he, hd, hs⟩ S1 l1 d1 => by
    obtain ⟨F2, l2, S2, r2⟩ := S1.esc d1 he
    subst hd
    have r2' := r2
    cases r2 with
    | ins h rr =>
      refine ⟨_, _, _, rfl, S2.hard h, ?_⟩
      have ask := S2.ask (W := fun _ _ _ _ => False) (dvs := []) (df := []) (vs := [.ref _]) (as := [.fz _]) (is := []) (sp := sp) (Q := Q) (.fz r2' .nil) .nil Lk.none hs (fun d ρ3 v H' F' hp S' l' r => kk _ _ _ H' F' hp S' ((l1.trans l2).trans l') r) fun d ρ3 p H' F' hp S' l' N => by
        obtain ⟨F4, l4, S4, r4⟩ := S'.freeze N
        exact kk _ _ _ H' F4 hp S4 (((l1.trans l2).trans l').trans l4) r4
      exact ask⟩
end
end DL
/-! DL14: instances made; built-ins. -/
namespace DL
open PySem L2
section
variable {X : Cx} {E : En} {e o : Expr} {es : List Expr} {p pos apos : Pos} {x m : Str} {f C : Addr} {fd : FuncData} {CX : CXT} {k : Nat} {ps : List Str} {ds : List Value} {dvs : List V} {df : List D} {EX : DX} {W : WX} {ma : MA} {me mo : ME}
def tMakeW (C : Addr) (sp : Sp) (dvs : List V) (E : L2.St → XK) (t : TA) : TE := fun σ H Q => t σ H fun vs H1 => ∀ x dx, H1 x = none → H1 dx = none → dx ≠ x →
  sp (.ref x :: (vs ++ dvs)) (upd (upd H1 dx (.own x)) x (.ins C dx [])) (fun v H2 => v = .non ∧ Q (.ref x) H2) (E σ)
open PySem.Spec PyProof.Rows in
theorem run_makeW {sp : Sp} {W' : L2.St → XK} {pins : List (Addr × Obj)} {σ : L2.St} {H : Hp} {s : Shared} {Q : VK} {us : List Value} {vs : List V} (M : Mk X.K C f) (G : FnG X.prog X.w X.K X.mg X.base CX k f fd ps sp) (hr : RoomG (k + 1) X.A) (hb : Binds X.K fd ps ds) (hd : Vals dvs ds)
    (hx : ∀ {H' s'' e s'}, Inv X pins σ H' s'' → CX X.stack H' s'' (W' σ) e s' → X.xe e s') (I : Inv X pins σ H s) (r : Vals vs us)
    (h : ∀ x dx, H x = none → H dx = none → dx ≠ x → sp (.ref x :: (vs ++ dvs)) (upd (upd H dx (.own x)) x (.ins C dx [])) (fun v H2 => v = .non ∧ Q (.ref x) H2) (W' σ)) :
    wpAny (model X.prog X.w) X.A (call (.ref C) us) (EP X pins σ Q) X.xe s := by
  have n1 : H (s.heap.objs.size + 1) = none := I.hok.fresh (Nat.le_succ _)
  have n2 : H s.heap.objs.size = none := I.hok.fresh (Nat.le_refl _)
  have hq := h (s.heap.objs.size + 1) s.heap.objs.size n1 n2 (Nat.ne_of_lt (Nat.lt_succ_self _))
  have J := Inv.made (C := C) I
  have rr : Vals (V.ref (s.heap.objs.size + 1) :: (vs ++ dvs)) (Value.ref (s.heap.objs.size + 1) :: (us ++ ds)) := .cons rfl (r.append hd)
  have hl : (Value.ref (s.heap.objs.size + 1) :: us ++ ds).length = ps.length := by
    have z := rr.length
    rw [G.len _ _ _ _ hq] at z
    exact z.symm
  have run := G.go (X.A.under (.builtin "type.__call__" ⟨.ref C :: us, []⟩)) X.stack _ _ ⟨Value.ref (s.heap.objs.size + 1) :: us, []⟩ (Value.ref (s.heap.objs.size + 1) :: (us ++ ds)) _ _ (W' σ) (hr.make C us []) (J.env0.make C us []) (hb _ (Value.ref (s.heap.objs.size + 1) :: us) J.kIn hl) rr hq
  refine wpAny_call (make_map (f := f) I.kIn M.makes M.init (beq_iff_eq.mp M.fn) (codeAny_mono run fun r s' hq' => ?_))
  cases r with
  | error er => exact hx J hq'
  | ok fl =>
    cases fl with
    | ret u =>
      obtain ⟨v, H', I3, rv, ev, q3⟩ := J.after hq'
      subst ev
      exact ⟨rv, ⟨V.ref (s.heap.objs.size + 1), H', I3, rfl, q3⟩⟩
    | next => exact False.elim hq'
    | brk => exact False.elim hq'
    | cont => exact False.elim hq'
open PySem.Spec PyProof.Rows in
theorem pe_makeW {sp : Sp} {W' : L2.St → XK} {t : TA} (M : Mk X.K C f) (G : FnG X.prog X.w X.K X.mg X.base CX k f fd ps sp) (hr : RoomG (k + 1) X.A) (hg : Gl X x) (hm : X.mg x = some (.ref C)) (hb : Binds X.K fd ps ds) (hd : Vals dvs ds) (hx : ∀ σ, PassesAt CX X σ (W' σ))
    (ha : PA X (e :: es) t) (hdb : (x == ("__debug__" : Str)) = false := by decide) (he : starEach (e :: es) X.env = (false, eval e X.env) :: starEach es X.env := by rfl) (hpl : (backTo pos (starEach es X.env)).any (·.1) = false := by rfl) :
    PE X (.Call (.Name x p) (e :: es) [] pos) (tMakeW C sp dvs W' t) := by
  refine ⟨fun pins s σ H Q I h => ?_⟩
  refine wpAny_Call_Name_kw (ld_glob I hg hm ?_ hdb)
  refine PySem.W.callWith_K (h₀ := X.base) I.ok.mod.kin M.kp (thn (ha.run pos pins s σ H _ I h) fun us s1 ⟨vs, H1, I1, r, q⟩ => ⟨I1.kIn, ?_⟩) he hpl
  exact run_makeW M G hr hb hd (fun {H' s'' e s'} J c => hx σ pins H' s'' e s' J c) I1 r q
/-- C(a, ..): the new object as its __init__ leaves it -/
def mMake (C : Addr) (sp : DSp) (df : List D) (EX : DX) (m : MA) : MO := fun ρ P => m ρ fun rs ρ1 => ∃ as ρ2, escs ρ1 rs = some (as, ρ2) ∧
  sp (.bw (.ins C []) :: (as.map .fz ++ df.map .fz)) { rt := fun d ns => d = .non ∧ ∃ d', ns = [d'] ∧ P d' ρ2, ex := fun c d ns => EX c d ρ2 }
theorem bwA_fz : ∀ {vs : List V} {as : List D}, vs.length = as.length → bwA vs (as.map .fz) = []
  | [], [], _ => rfl
  | v :: vs, a :: as, h => by
    have := bwA_fz (vs := vs) (as := as) (by simpa using h)
    cases v <;> simpa [bwA] using this
theorem args_fz {F : Fz} {H : Hp} : ∀ {vs : List V} {as : List D}, Reps F vs as → Args F H vs (as.map .fz)
  | _, _, .nil => .nil
  | _, _, .cons h r => .fz h (args_fz r)
theorem news_fz {F : Fz} {H : Hp} : ∀ {vs : List V} {as : List D} {ns : List D}, News F H vs (as.map .fz) ns → ns = []
  | [], [], _, .nil => rfl
  | v :: vs, a :: as, ns, .fz h => news_fz h
theorem do_make {sp : DSp} (M : Mk X.K C f) (G : FnG X.prog X.w X.K X.mg X.base CX k f fd ps (liftSp sp)) (hr : RoomG (k + 1) X.A) (hg : Gl X x) (hm : X.mg x = some (.ref C)) (hb : Binds X.K fd ps ds) (hd : Vals dvs ds) (hdf : ∀ F, Reps F dvs df) (lk : Lk E EX W) (hx : PassW CX X W)
    (ha : DA X E (e :: es) ma) (hdb : (x == ("__debug__" : Str)) = false := by decide) (he : starEach (e :: es) X.env = (false, eval e X.env) :: starEach es X.env := by rfl) (hpl : (backTo pos (starEach es X.env)).any (·.1) = false := by rfl) :
    DO X E (.Call (.Name x p) (e :: es) [] pos) (mMake C sp df EX ma) := PE.to (pe_makeW M G hr hg hm hb hd hx ha hdb he hpl) fun σ H Q ⟨F, ρ, P, S, hm, kk⟩ =>
  ⟨F, ρ, _, S, hm, fun rs ρ1 vs H1 F1 ⟨as, ρ2, he, hs⟩ S1 l1 d1 => by
    obtain ⟨F2, l2, S2, r2⟩ := SR.escL S1 d1 he
    intro x dx nx ndx ne
    have Sx := (S2.lay (o := .own x) ndx).lay (p := x) (o := .ins C dx []) (by rw [upd_ne (Ne.symm ne)]; exact nx)
    have fx := S2.nil nx
    have eB : bwA (.ref x :: (vs ++ dvs)) (.bw (.ins C []) :: (as.map .fz ++ df.map .fz)) = [x] := by
      rw [← List.map_append]
      have := bwA_fz (vs := vs ++ dvs) (as := as ++ df) (by rw [List.length_append, List.length_append, r2.length, (hdf F).length])
      simp only [bwA]
      rw [this]
    have ox : Own F2 (upd (upd H1 dx (.own x)) x (.ins C dx [])) x (.ins C []) := ⟨dx, [], upd_same, .nil⟩
    refine ⟨F2, _, _, Sx.sits, .bw fx ox (by rw [← List.map_append]; exact args_fz (r2.append (hdf F2))), by rw [eB]; simp, hs, fun d ns v F' H' ⟨hd0, d', hn, hp⟩ b r => ?_, fun d ns p F' H' hp => hp.elim, fun c d ns dx' v F' H' hp b h1 h2 => ?_⟩
    · subst hd0
      refine ⟨by cases r; rfl, ?_⟩
      have g := b.go
      rw [eB] at g
      have S3 := Sx.callee (B := (· ∈ [x])) (fun q hq => by
        have : q = x := by simpa using hq
        subst this
        exact S2.fresh nx) (fun q hq => by
        have : q = x := by simpa using hq
        subst this
        exact .inr (S2.go.free nx)) g b.sits
      have nw := b.news
      subst hn
      cases nw with
      | bw e1 e2 e3 => exact kk _ _ x H' F' hp S3 ((l1.trans l2).trans g.le) ⟨e1, e2, S2.fresh nx, S2.go.free nx⟩
    · have g := b.go
      rw [eB] at g
      have S3 := Sx.callee (B := (· ∈ [x])) (fun q hq => by
        have : q = x := by simpa using hq
        subst this
        exact S2.fresh nx) (fun q hq => by
        have : q = x := by simpa using hq
        subst this
        exact .inr (S2.go.free nx)) g b.sits
      exact lk.out c d dx' v ρ2 σ F' H' hp S3 h1 h2⟩
/-! ### built-in classes called -/
variable {r : List V → Hp → VK → Prop} {g : List D → D → Prop}
theorem de_ty {T : String} (hc : CallR X (.type T) r) (o : CaD r g) (hg : Gl X x) (hm : X.mg x = none) (hv : bootBuiltins x = some (.type T)) (ha : DA X E (e :: es) ma) (hn : x ≠ "__name__" := by decide) (hdb : (x == ("__debug__" : Str)) = false := by decide)
    (he : starEach (e :: es) X.env = (false, eval e X.env) :: starEach es X.env := by rfl) (hpl : (backTo pos (starEach es X.env)).any (·.1) = false := by rfl) : DE X E (.Call (.Name x p) (e :: es) [] pos) (mCa g ma) := PE.to (pe_callTy hc hg hm hv ha hn hdb he hpl) (ca_to o)
theorem do_ty {T : String} (hc : CallR X (.type T) r) (o : CaO r g) (hg : Gl X x) (hm : X.mg x = none) (hv : bootBuiltins x = some (.type T)) (ha : DA X E (e :: es) ma) (hn : x ≠ "__name__" := by decide) (hdb : (x == ("__debug__" : Str)) = false := by decide)
    (he : starEach (e :: es) X.env = (false, eval e X.env) :: starEach es X.env := by rfl) (hpl : (backTo pos (starEach es X.env)).any (·.1) = false := by rfl) : DO X E (.Call (.Name x p) (e :: es) [] pos) (mCaO g ma) := PE.to (pe_callTy hc hg hm hv ha hn hdb he hpl) (caO_to o)
end
theorem Views.one {F : Fz} {H : Hp} : ∀ {vs : List V} {d : D}, Views F H vs [d] → ∃ v, vs = [v] ∧ View F H v d
  | [v], d, ⟨h, _⟩ => ⟨v, rfl, h⟩
theorem Views.two {F : Fz} {H : Hp} : ∀ {vs : List V} {d e : D}, Views F H vs [d, e] → ∃ v w, vs = [v, w] ∧ View F H v d ∧ View F H w e
  | [v, w], d, e, ⟨h, k, _⟩ => ⟨v, w, rfl, h, k⟩
/-! len -/
def gLen : List D → D → Prop := fun as d => (∃ xs, as = [.lst xs] ∧ d = .int xs.length) ∨ (∃ xs, as = [.tup xs] ∧ d = .int xs.length) ∨ ∃ z, as = [.str z] ∧ z.length ≤ sizeLine ∧ d = .int z.length
theorem ca_len {K : PySem.W.Frag} : CaD (fun xs H (Q : VK) => ∃ x n, xs = [x] ∧ LenV K x H n ∧ Q (.int n) H) gLen := fun E F H σ ρ vs ds d Q S vw g k => by
  rcases g with ⟨xs, e1, e2⟩ | ⟨xs, e1, e2⟩ | ⟨z, e1, hz, e2⟩
  · subst e1; subst e2
    obtain ⟨v, rfl, h⟩ := vw.one
    obtain ⟨p, ws, rfl, hp, r⟩ := h.lst S.sits
    exact ⟨_, xs.length, rfl, .inl ⟨ws, .inl hp, r.length.symm⟩, k _ H F S .refl (.int _)⟩
  · subst e1; subst e2
    obtain ⟨v, rfl, h⟩ := vw.one
    obtain ⟨p, ws, rfl, hp, r⟩ := h.tup S.sits
    exact ⟨_, xs.length, rfl, .inr ⟨ws, .inl hp, r.length.symm⟩, k _ H F S .refl (.int _)⟩
  · subst e1; subst e2
    obtain ⟨v, rfl, h⟩ := vw.one
    rw [h.str]
    exact ⟨_, z.length, rfl, ⟨hz, rfl⟩, k _ H F S .refl (.int _)⟩
@[simp] theorem gLen_lst {xs : List D} {d : D} : gLen [.lst xs] d ↔ d = .int xs.length := by simp [gLen]
@[simp] theorem gLen_tup {xs : List D} {d : D} : gLen [.tup xs] d ↔ d = .int xs.length := by simp [gLen]
@[simp] theorem gLen_str {z : Str} {d : D} : gLen [.str z] d ↔ z.length ≤ sizeLine ∧ d = .int z.length := by simp [gLen]
/-! int, abs, max, min -/
def gInt : List D → D → Prop := fun as d => (∃ i, as = [.int i] ∧ d = .int i) ∨ ∃ b, as = [.bl b] ∧ d = .int (if b then 1 else 0)
theorem ca_int : CaD (fun xs H (Q : VK) => (∃ i, xs = [.int i] ∧ Q (.int i) H) ∨ ∃ k, xs = [.bl k] ∧ Q (.int (if k then 1 else 0)) H) gInt := fun E F H σ ρ vs ds d Q S vw g k => by
  rcases g with ⟨i, e1, e2⟩ | ⟨b, e1, e2⟩
  · subst e1; subst e2
    obtain ⟨v, rfl, h⟩ := vw.one
    rw [h.int]
    exact .inl ⟨i, rfl, k _ H F S .refl (.int _)⟩
  · subst e1; subst e2
    obtain ⟨v, rfl, h⟩ := vw.one
    rw [h.bl]
    exact .inr ⟨b, rfl, k _ H F S .refl (.int _)⟩
@[simp] theorem gInt_int {i : Int} {d : D} : gInt [.int i] d ↔ d = .int i := by simp [gInt]
@[simp] theorem gInt_bl {i : Bool} {d : D} : gInt [.bl i] d ↔ d = .int (if i then 1 else 0) := by simp [gInt]
def gI1 (f : Int → Int) : List D → D → Prop := fun as d => ∃ i, as = [.int i] ∧ d = .int (f i)
theorem ca_I1 {f : Int → Int} : CaD (fun xs H (Q : VK) => ∃ i, xs = [.int i] ∧ Q (.int (f i)) H) (gI1 f) := fun E F H σ ρ vs ds d Q S vw ⟨i, e1, e2⟩ k => by
  subst e1; subst e2
  obtain ⟨v, rfl, h⟩ := vw.one
  rw [h.int]
  exact ⟨i, rfl, k _ H F S .refl (.int _)⟩
def gI2 (f : Int → Int → Int) : List D → D → Prop := fun as d => ∃ i j, as = [.int i, .int j] ∧ d = .int (f i j)
theorem ca_I2 {f : Int → Int → Int} : CaD (fun xs H (Q : VK) => ∃ i j, xs = [.int i, .int j] ∧ Q (.int (f i j)) H) (gI2 f) := fun E F H σ ρ vs ds d Q S vw ⟨i, j, e1, e2⟩ k => by
  subst e1; subst e2
  obtain ⟨v, w, rfl, h, h2⟩ := vw.two
  rw [h.int, h2.int]
  exact ⟨i, j, rfl, k _ H F S .refl (.int _)⟩
@[simp] theorem gI1_int {f : Int → Int} {i : Int} {d : D} : gI1 f [.int i] d ↔ d = .int (f i) := by simp [gI1]
@[simp] theorem gI2_int {f : Int → Int → Int} {i j : Int} {d : D} : gI2 f [.int i, .int j] d ↔ d = .int (f i j) :=
  ⟨fun ⟨a, b, e1, e2⟩ => by cases e1; exact e2, fun h => ⟨i, j, rfl, h⟩⟩
/-! list, tuple -/
def gList : List D → D → Prop := fun as d => ∃ xs, (as = [.lst xs] ∨ as = [.tup xs]) ∧ d = .lst xs
theorem co_list {K : PySem.W.Frag} : CaO (fun xs H (Q : VK) => ∃ p ys, xs = [.ref p] ∧ (SqL K H p ys ∨ SqT K H p ys) ∧ ∀ l, H l = none → Q (.ref l) (upd H l (.lst ys))) gList := fun E F H σ ρ vs ds d Q S vw ⟨xs, e1, e2⟩ k => by
  subst e2
  rcases e1 with e1 | e1
  · subst e1
    obtain ⟨v, rfl, h⟩ := vw.one
    obtain ⟨p, ws, rfl, hp, r⟩ := h.lst S.sits
    refine ⟨p, ws, rfl, .inl (.inl hp), fun l hl => ?_⟩
    obtain ⟨S', N⟩ := S.newLst hl r
    exact k l _ F S' .refl N
  · subst e1
    obtain ⟨v, rfl, h⟩ := vw.one
    obtain ⟨p, ws, rfl, hp, r⟩ := h.tup S.sits
    refine ⟨p, ws, rfl, .inr (.inl hp), fun l hl => ?_⟩
    obtain ⟨S', N⟩ := S.newLst hl r
    exact k l _ F S' .refl N
theorem CaO.d {r : List V → Hp → VK → Prop} {g : List D → D → Prop} (h : CaO r g) : CaD r g := fun E F H σ ρ vs ds d Q S vw gg k => h E F H σ ρ vs ds d Q S vw gg fun p H' F' S' l N => by
  obtain ⟨F2, l2, S2, r⟩ := S'.freeze N
  exact k _ H' F2 S2 (l.trans l2) r
def gTuple : List D → D → Prop := fun as d => ∃ xs, (as = [.lst xs] ∨ as = [.tup xs]) ∧ d = .tup xs
theorem ca_tuple {K : PySem.W.Frag} : CaD (fun xs H (Q : VK) => ∃ p ys, xs = [.ref p] ∧ ((SqL K H p ys ∧ ∀ l, H l = none → Q (.ref l) (upd H l (.tup ys))) ∨ (SqT K H p ys ∧ Q (.ref p) H))) gTuple := fun E F H σ ρ vs ds d Q S vw ⟨xs, e1, e2⟩ k => by
  subst e2
  rcases e1 with e1 | e1
  · subst e1
    obtain ⟨v, rfl, h⟩ := vw.one
    obtain ⟨p, ws, rfl, hp, r⟩ := h.lst S.sits
    refine ⟨p, ws, rfl, .inl ⟨.inl hp, fun l hl => ?_⟩⟩
    obtain ⟨F', S', l', r'⟩ := S.newTup hl r
    exact k _ _ F' S' l' r'
  · subst e1
    obtain ⟨v, rfl, h⟩ := vw.one
    have h' : Rep F v (.tup xs) := by
      rcases h with z | ⟨_, _, _, z⟩
      · exact z
      · exact z.elim
    obtain ⟨p, ws, rfl, hp, r⟩ := h.tup S.sits
    exact ⟨p, ws, rfl, .inr ⟨.inl hp, k _ H F S .refl h'⟩⟩
end DL
/-! DL15: (promises now in DL11) -/
/-! DL16: repr of plain data. -/
namespace DL
open PySem L2
mutual
/-- every integer in it has less than 1,920 binary digits -/
def okR : D → Bool
  | .int i => decide (i.natAbs.log2 < 1920)
  | .lst xs => okRs xs
  | .tup xs => okRs xs
  | .non => true
  | .bl _ => true
  | .str _ => true
  | .dic _ => true
  | .ty _ => true
  | .ins _ _ => true
  | .exc _ _ _ _ => true
  | .mem _ _ => true
def okRs : List D → Bool
  | [] => true
  | x :: xs => okR x && okRs xs
end
mutual
/-- more signs than its repr has -/
def wR : D → Nat
  | .int _ => 1922
  | .str x => 10 * x.length + 2
  | .lst xs => 3 + wRs xs
  | .tup xs => 3 + wRs xs
  | .non => 5
  | .bl _ => 5
  | .dic _ => 5
  | .ty _ => 5
  | .ins _ _ => 5
  | .exc _ _ _ _ => 5
  | .mem _ _ => 5
def wRs : List D → Nat
  | [] => 0
  | x :: xs => wR x + 2 + wRs xs
end
def shw (d : D) : Str := (py d).shown
theorem len_app (x y : Str) : (x ++ y).length = x.length + y.length := strLen_append x y
theorem listText_le (ts : List Str) : (listText ts).length ≤ 2 + piled ts := by
  have e1 : (Str.ofString "[").length = 1 := by decide
  have e2 : (Str.ofString "]").length = 1 := by decide
  have e0 : (Str.ofString "").length = 0 := by decide
  cases ts with
  | nil =>
    show ((Str.ofString "[") ++ (Str.ofString "]")).length ≤ _
    rw [len_app, e1, e2]
    omega
  | cons t r =>
    show (textFrom 1 ((Str.ofString "[") ++ (Str.ofString "") ++ t) r ++ (Str.ofString "]")).length ≤ _
    rw [len_app, e2, textFrom_length_pos _ _ _ (by decide), len_app, len_app, e1, e0, piled_cons]
    omega
theorem tupleText_le (ts : List Str) : (tupleText ts).length ≤ 3 + piled ts := by
  have e1 : (Str.ofString "(").length = 1 := by decide
  have e2 : (Str.ofString ",)").length = 2 := by decide
  have e3 : (Str.ofString ")").length = 1 := by decide
  have key : (Str.join ", " ts).length ≤ piled ts := by
    cases ts with
    | nil => exact Nat.le_refl 0
    | cons t r =>
      have := join_length_add (t :: r) (by simp)
      omega
  unfold tupleText
  rw [len_app, len_app]
  show (Str.ofString "(").length + _ + (Str.ofString (if ts.length == 1 then ",)" else ")")).length ≤ _
  split <;> rw [e1] <;> first | rw [e2] | rw [e3]
  all_goals omega
mutual
theorem shown_le : ∀ (n : Nat) (d : D), plain n d = true → okR d = true → (py d).shown.length ≤ wR d
  | _, .non, _, _ => by simp only [py, PyData.shown, wR]; decide
  | _, .bl b, _, _ => by cases b <;> simp only [py, PyData.shown, wR] <;> decide
  | _, .int i, _, h => by
    have h' : i.natAbs.log2 < 1920 := by simpa [okR] using h
    have := PyProof.Rows.int_text_len_1921 h'
    simp only [py, PyData.shown, wR]
    exact Nat.le_trans this (by decide)
  | n, .str x, p, _ => by
    have p' : PyData.strOk x = true := by cases n <;> simpa [plain] using p
    simp only [py, PyData.shown, wR]
    refine StrLaws.reprText_len x fun c hc => ?_
    unfold PyData.strOk at p'
    rw [Array.all_eq_true_iff_forall_mem] at p'
    have := p' c (by simpa using hc)
    have h2 : c < 0x110000 := by simpa using this
    exact Nat.lt_trans h2 (by decide)
  | 0, .lst xs, p, _ => by simp [plain] at p
  | n + 1, .lst xs, p, h => by
    have := shownAll_le n xs (by simpa [plain] using p) (by simpa [okR] using h)
    have z := listText_le (PyData.shownAll (pys xs))
    simp only [py, PyData.shown, wR]
    omega
  | 0, .tup xs, p, _ => by simp [plain] at p
  | n + 1, .tup xs, p, h => by
    have := shownAll_le n xs (by simpa [plain] using p) (by simpa [okR] using h)
    have z := tupleText_le (PyData.shownAll (pys xs))
    simp only [py, PyData.shown, wR]
    omega
  | n, .ty _, p, _ => by cases n <;> simp [plain] at p
  | n, .dic _, p, _ => by cases n <;> simp [plain] at p
  | n, .ins _ _, p, _ => by cases n <;> simp [plain] at p
  | n, .exc _ _ _ _, p, _ => by cases n <;> simp [plain] at p
  | n, .mem _ _, p, _ => by cases n <;> simp [plain] at p
theorem shownAll_le : ∀ (n : Nat) (ds : List D), plains n ds = true → okRs ds = true → piled (PyData.shownAll (pys ds)) ≤ wRs ds
  | _, [], _, _ => Nat.le_refl 0
  | n, d :: ds, p, h => by
    have p' : plain n d = true ∧ plains n ds = true := by simpa [plains] using p
    have h' : okR d = true ∧ okRs ds = true := by simpa [okRs] using h
    have a := shown_le n d p'.1 h'.1
    have b := shownAll_le n ds p'.2 h'.2
    simp only [pys, PyData.shownAll, piled_cons, wRs]
    omega
end
mutual
theorem showable_of : ∀ (n : Nat) (d : D), plain n d = true → okR d = true → (py d).showable = true ∧ (py d).hasDict = false
  | _, .non, _, _ => by simp [py, PyData.showable, PyData.hasDict]
  | _, .bl _, _, _ => by simp [py, PyData.showable, PyData.hasDict]
  | _, .int i, _, h => by simpa [py, PyData.showable, PyData.hasDict, okR] using h
  | _, .str _, _, _ => by simp [py, PyData.showable, PyData.hasDict]
  | 0, .lst xs, p, _ => by simp [plain] at p
  | n + 1, .lst xs, p, h => by
    obtain ⟨a, b⟩ := showables_of n xs (by simpa [plain] using p) (by simpa [okR] using h)
    simp [py, PyData.showable, PyData.hasDict, a, b]
  | 0, .tup xs, p, _ => by simp [plain] at p
  | n + 1, .tup xs, p, h => by
    obtain ⟨a, b⟩ := showables_of n xs (by simpa [plain] using p) (by simpa [okR] using h)
    simp [py, PyData.showable, PyData.hasDict, a, b]
  | n, .ty _, p, _ => by cases n <;> simp [plain] at p
  | n, .dic _, p, _ => by cases n <;> simp [plain] at p
  | n, .ins _ _, p, _ => by cases n <;> simp [plain] at p
  | n, .exc _ _ _ _, p, _ => by cases n <;> simp [plain] at p
  | n, .mem _ _, p, _ => by cases n <;> simp [plain] at p
theorem showables_of : ∀ (n : Nat) (ds : List D), plains n ds = true → okRs ds = true → PyData.showableAll (pys ds) = true ∧ PyData.hasDictAll (pys ds) = false
  | _, [], _, _ => by simp [pys, PyData.showableAll, PyData.hasDictAll]
  | n, d :: ds, p, h => by
    have p' : plain n d = true ∧ plains n ds = true := by simpa [plains] using p
    have h' : okR d = true ∧ okRs ds = true := by simpa [okRs] using h
    obtain ⟨a, b⟩ := showable_of n d p'.1 h'.1
    obtain ⟨a', b'⟩ := showables_of n ds p'.2 h'.2
    simp [pys, PyData.showableAll, PyData.hasDictAll, a, a', b, b']
end
def rRepr (K : PySem.W.Frag) : List V → Hp → VK → Prop := fun xs H Q => ∃ x d, xs = [x] ∧ Dp K H x d ∧ d.showable = true ∧ d.hasDict = false ∧ d.depth ≤ 64 ∧ d.shown.length ≤ sizeLine ∧ Q (.str d.shown) H
open PySem.Spec PyProof.Rows in
theorem call_repr {X : Cx} (hG : X.A.guards = some []) (hu : X.A.units + 66 < cLine) : CallR X (.builtin "repr") (rRepr X.K) := by
  intro pins s σ H vs us Q I r h
  obtain ⟨x, d, rfl, hd, h1, h2, h3, h4, q⟩ := h
  obtain ⟨u, rfl, ru⟩ := vals1 r
  obtain ⟨as, rd⟩ := Dp.reads I d x u hd ru
  have fin : ∀ h' tk, (∀ b o, s.heap.get? b = some o → h'.get? b = some o) → ∀ t, EP X pins σ Q (.str d.shown t) { s with heap := h', toks := tk } := fun h' tk kk t => ⟨.str d.shown, H, I.kept kk, ⟨t, rfl⟩, q⟩
  have same : ∀ (t : Nat), EP X pins σ Q (.str d.shown t) { s with toks := s.toks + 1 } := fun t => fin s.heap _ (fun _ _ e => e) t
  cases rd with
  | none => exact P.repr_of_none (same _)
  | bool b => exact P.repr_of_bool (same _)
  | int i t => exact P.repr_of_int (by simpa [PyData.showable] using h1) (same _)
  | str z t => exact P.repr_of_str (same _) h4
  | list a1 a2 a3 a4 => exact repr_of_reads' (.list a1 a2 a3 a4) h1 (PyData.noDict_hsm h2) hG (by omega) (fun _ _ e => e) (fun h' t tk kk => fin h' tk kk t) h4
  | tuple a1 a2 a3 a4 => exact repr_of_reads' (.tuple a1 a2 a3 a4) h1 (PyData.noDict_hsm h2) hG (by omega) (fun _ _ e => e) (fun h' t tk kk => fin h' tk kk t) h4
  | dict a1 a2 a3 a4 a5 => simp [PyData.hasDict] at h2
def gRepr : List D → D → Prop := fun as d => ∃ a, as = [a] ∧ plain 64 a = true ∧ okR a = true ∧ wR a ≤ 16777216 ∧ d = .str (shw a)
theorem ca_repr {K : PySem.W.Frag} : CaD (rRepr K) gRepr := fun E F H σ ρ vs ds d Q S vw ⟨a, e1, p, o, z, e2⟩ k => by
  subst e1; subst e2
  obtain ⟨v, rfl, h⟩ := vw.one
  obtain ⟨h1, h2⟩ := showable_of 64 a p o
  have h3 := (py_ok 64 a p).2
  have h4 := shown_le 64 a p o
  exact ⟨v, py a, rfl, h.dp S.sits p, h1, h2, h3, by rw [sizeLine_eq]; omega, k _ H F S .refl (.str _)⟩
@[simp] theorem gRepr_one {a d : D} : gRepr [a] d ↔ plain 64 a = true ∧ okR a = true ∧ wR a ≤ 16777216 ∧ d = .str (shw a) := by simp [gRepr]
end DL
/-! DL17: any, all, join, texts times ints, isinstance, calls without arguments and by keywords. -/
namespace DL
open PySem L2
section
variable {X : Cx} {E : En} {pos : Pos} {x : Str}
/-- a text that the top holds -/
theorem de_gstr {u : Value} {z : Str} (hg : Gl X x) (hm : X.mg x = some u) (hu : ∃ t, u = .str z t) (hd : (x == ("__debug__" : Str)) = false := by decide) : DE X E (.Name x pos) (mC (.str z)) := de_c (pe_glob (v := V.str z) hg hm hu hd) fun _ => .str z
end
/-! any, all -/
theorem Reps.bls {F : Fz} : ∀ {vs : List V} {bs : List Bool}, Reps F vs (bs.map D.bl) → vs = bs.map V.bl
  | _, [], .nil => rfl
  | _, _ :: _, .cons h r => by
    cases h
    rw [r.bls]
    rfl
theorem Reps.strs {F : Fz} : ∀ {vs : List V} {bs : List Str}, Reps F vs (bs.map D.str) → vs = bs.map V.str
  | _, [], .nil => rfl
  | _, _ :: _, .cons h r => by
    cases h
    rw [r.strs]
    rfl
theorem Reps.ints {F : Fz} : ∀ {vs : List V} {bs : List Int}, Reps F vs (bs.map D.int) → vs = bs.map V.int
  | _, [], .nil => rfl
  | _, _ :: _, .cons h r => by
    cases h
    rw [r.ints]
    rfl
def gAny : List D → D → Prop := fun as d => ∃ bs : List Bool, as = [.lst (bs.map D.bl)] ∧ d = .bl (bs.any id)
def gAll : List D → D → Prop := fun as d => ∃ bs : List Bool, as = [.lst (bs.map D.bl)] ∧ d = .bl (bs.all id)
theorem ca_any {K : PySem.W.Frag} : CaD (rAny K) gAny := fun E F H σ ρ vs ds d Q S vw ⟨bs, e1, e2⟩ k => by
  subst e1; subst e2
  obtain ⟨v, rfl, h⟩ := vw.one
  obtain ⟨p, ws, rfl, hp, r⟩ := h.lst S.sits
  exact ⟨p, bs, rfl, .inl (by rw [← r.bls]; exact hp), k _ H F S .refl (.bl _)⟩
theorem ca_all {K : PySem.W.Frag} : CaD (rAll K) gAll := fun E F H σ ρ vs ds d Q S vw ⟨bs, e1, e2⟩ k => by
  subst e1; subst e2
  obtain ⟨v, rfl, h⟩ := vw.one
  obtain ⟨p, ws, rfl, hp, r⟩ := h.lst S.sits
  exact ⟨p, bs, rfl, .inl (by rw [← r.bls]; exact hp), k _ H F S .refl (.bl _)⟩
theorem mapbl_inj : ∀ {as bs : List Bool}, as.map D.bl = bs.map D.bl → as = bs
  | [], [], _ => rfl
  | [], _ :: _, h => by simp at h
  | _ :: _, [], h => by simp at h
  | a :: as, b :: bs, h => by
    simp only [List.map_cons, List.cons.injEq, D.bl.injEq] at h
    rw [h.1, mapbl_inj h.2]
@[simp] theorem gAny_map {bs : List Bool} {d : D} : gAny [.lst (bs.map D.bl)] d ↔ d = .bl (bs.any id) :=
  ⟨fun ⟨cs, e1, e2⟩ => by
    simp only [List.cons.injEq, D.lst.injEq, and_true] at e1
    rw [mapbl_inj e1]; exact e2, fun h => ⟨bs, rfl, h⟩⟩
@[simp] theorem gAll_map {bs : List Bool} {d : D} : gAll [.lst (bs.map D.bl)] d ↔ d = .bl (bs.all id) :=
  ⟨fun ⟨cs, e1, e2⟩ => by
    simp only [List.cons.injEq, D.lst.injEq, and_true] at e1
    rw [mapbl_inj e1]; exact e2, fun h => ⟨bs, rfl, h⟩⟩
/-! join -/
section
variable {X : Cx} {E : En} {o e : Expr} {apos pos : Pos} {mo me : ME}
def mJoin (mo me : ME) : ME := fun ρ P => mo ρ fun r ρ1 => ∃ a, r.get ρ1 = some (.str a) ∧ me ρ1 fun r2 ρ2 => ∃ ys : List Str, r2.get ρ2 = some (.lst (ys.map D.str)) ∧ (ys.map (·.length)).sum + ys.length * a.length ≤ 16777216 ∧ P (.val (.str (Txt.join a ys))) ρ2
theorem de_join (ho : DE X E o mo) (he : DE X E e me) (hs : starEach [e] X.env = [(false, eval e X.env)] := by rfl) (hbase : attributeBase o "join" X.env (eval o X.env) = eval o X.env := by rfl) (hline : (apos.endLine == pos.line) = true := by rfl) :
    DE X E (.Call (.Attribute o "join" apos) [e] [] pos) (mJoin mo me) := PE.to (pe_join ho he hs hbase hline) fun σ H Q ⟨F, ρ, P, S, hm, k⟩ =>
  ⟨F, ρ, _, S, hm, fun r ρ1 v H1 F1 ⟨a, g, h2⟩ S1 l1 d1 => by
    have ev := (S1.view d1 g).str
    refine ⟨⟨a, ev⟩, F1, ρ1, _, S1, h2, fun r2 ρ2 y H2 F2 ⟨ys, g2, hz, hp⟩ S2 l2 d2 => ?_⟩
    obtain ⟨p, ws, rfl, hw, rr⟩ := (S2.view d2 g2).lst S2.sits
    exact ⟨a, p, ys, ev, rfl, .inl (.inl (by rw [← rr.strs]; exact hw)), hz, k _ _ _ H2 F2 hp S2 (l1.trans l2) (.str _)⟩⟩
end
/-! texts times ints -/
def repS (z : Str) (k : Int) : Str := ⟨(List.replicate k.toNat z.cps.toList).flatten.toArray⟩
theorem foldl_rep (a : Array Nat) : ∀ (n : Nat) (acc : Array Nat), ((List.replicate n a).foldl (· ++ ·) acc).toList = acc.toList ++ (List.replicate n a.toList).flatten
  | 0, acc => by simp
  | n + 1, acc => by
    rw [List.replicate_succ, List.foldl_cons, foldl_rep a n, List.replicate_succ, List.flatten_cons, Array.toList_append, List.append_assoc]
theorem repS_fold (z : Str) (k : Int) : (⟨(List.replicate k.toNat z.cps).foldl (· ++ ·) #[]⟩ : Str) = repS z k := by
  unfold repS
  congr 1
  apply Array.ext'
  rw [foldl_rep]
  simp
theorem repS_len (z : Str) (k : Int) : (repS z k).length = k.toNat * z.length := by
  show ((List.replicate k.toNat z.cps.toList).flatten.toArray).size = k.toNat * z.cps.size
  simp
theorem repS_lt {z : Str} {k : Int} (h : k < 1) : repS z k = Str.empty := by
  have : k.toNat = 0 := by omega
  unfold repS
  rw [this]
  rfl
theorem repS_one {z : Str} {k : Int} (h : (k == 1 || z.length == 0) = true) (hk : ¬ k < 1) : repS z k = z := by
  unfold repS
  rw [Bool.or_eq_true] at h
  rcases h with h | h
  · have : k = 1 := by simpa using h
    subst this
    simp
  · have : z.cps.size = 0 := (beq_iff_eq.mp h : z.length = 0)
    have : z.cps = #[] := Array.eq_empty_of_size_eq_zero this
    obtain ⟨c⟩ := z
    simp only at this
    subst this
    simp
def rRepS : R2 := fun x y H Q => ∃ z k, x = .str z ∧ y = .int k ∧ -(2 ^ 63) ≤ k ∧ k ≤ 16777216 ∧ z.length * k.toNat ≤ 16777216 ∧ Q (.str (repS z k)) H
theorem op_mulS {X : Cx} : OpR X (binaryOp .Mult) rRepS := by
  intro pins s σ H x y v u Q I rx ry h
  obtain ⟨z, k, rfl, rfl, h1, h2, h3, q⟩ := h
  obtain ⟨t, rfl⟩ := rx
  obtain ⟨t', rfl⟩ := ry
  have big : (16777216 : Int) < 2 ^ 63 := by decide
  refine P.mul_str ?_ (fun hk hn => ?_) (fun hk hn => ?_) ?_
  · rw [decide_eq_false (by omega), decide_eq_false (by omega)]; rfl
  · intro hc
    have hz : (z.length : Int) ≤ 16777216 := by
      have a : 1 ≤ k.toNat := by omega
      have := Nat.mul_le_mul_left z.length a
      omega
    have : (16777216 : Int) ≤ (2 ^ 63 - 1 : Int) / k := by
      apply Int.le_ediv_of_mul_le (by omega)
      have : 16777216 * k ≤ 16777216 * 16777216 := Int.mul_le_mul_of_nonneg_left h2 (by decide)
      omega
    omega
  · refine decide_eq_false ?_
    rw [sizeLine_eq]
    omega
  · by_cases hk : k < 1
    · rw [if_pos hk]
      rw [repS_lt hk] at q
      exact ⟨by decide, .str _, H, I.tok _, ⟨_, rfl⟩, q⟩
    · rw [if_neg hk]
      by_cases hn : (k == 1 || z.length == 0) = true
      · rw [if_pos hn]
        rw [repS_one hn hk] at q
        exact ⟨.str _, H, I, ⟨_, rfl⟩, q⟩
      · rw [if_neg hn]
        rw [repS_fold]
        refine ⟨?_, .str _, H, I.tok _, ⟨_, rfl⟩, q⟩
        rw [repS_len, sizeLine_eq, Nat.mul_comm]
        omega
def gRepS : D → D → D → Prop := fun a b d => ∃ z k, a = .str z ∧ b = .int k ∧ -(2 ^ 63) ≤ k ∧ k ≤ 16777216 ∧ z.length * k.toNat ≤ 16777216 ∧ d = .str (repS z k)
theorem od_mulS : OpD rRepS gRepS := fun E F H σ ρ x y d1 d2 d Q S v1 v2 ⟨z, k, e1, e2, h1, h2, h3, e3⟩ kk => by
  subst e1; subst e2; subst e3
  exact ⟨z, k, v1.str, v2.int, h1, h2, h3, kk _ H F S .refl (.str _)⟩
def gMulK : D → D → D → Prop := gI IntMulOk fun i j => .int (i * j)
theorem op_mulK {X : Cx} : OpR X (binaryOp .Mult) (rI IntMulOk fun i j => .int (i * j)) := opI fun _ _ _ _ _ _ _ hc q => PyProof.Rows.mul_int q hc
theorem od_mulK : OpD (rI IntMulOk fun i j => V.int (i * j)) gMulK := od_I fun _ i j => .int (i * j)
def gMul : D → D → D → Prop := fun a b d => gMulK a b d ∨ gRepS a b d
theorem op_mulA {X : Cx} : OpR X (binaryOp .Mult) (fun x y H Q => rI IntMulOk (fun i j => .int (i * j)) x y H Q ∨ rRepS x y H Q) := op_mulK.or op_mulS
theorem od_mul : OpD (fun x y H Q => rI IntMulOk (fun i j => V.int (i * j)) x y H Q ∨ rRepS x y H Q) gMul := fun E F H σ ρ x y d1 d2 d Q S v1 v2 g kk => by
  rcases g with g | g
  · exact .inl (od_mulK E F H σ ρ x y d1 d2 d Q S v1 v2 g kk)
  · exact .inr (od_mulS E F H σ ρ x y d1 d2 d Q S v1 v2 g kk)
@[simp] theorem gMul_int {i j : Int} {d : D} : gMul (.int i) (.int j) d ↔ IntMulOk i j ∧ d = .int (i * j) := by simp [gMul, gMulK, gRepS]
@[simp] theorem gMul_str {i : Str} {j : Int} {d : D} : gMul (.str i) (.int j) d ↔ -(2 ^ 63) ≤ j ∧ j ≤ 16777216 ∧ i.length * j.toNat ≤ 16777216 ∧ d = .str (repS i j) := by
  constructor
  · rintro (⟨_, _, e, _⟩ | ⟨z, k, e1, e2, h⟩)
    · cases e
    · cases e1; cases e2; exact h
  · exact fun h => .inr ⟨_, _, rfl, rfl, h⟩
/-! isinstance -/
def tyD : D → Option Value
  | .non => some (.type "NoneType") | .bl _ => some (.type "bool") | .int _ => some (.type "int") | .str _ => some (.type "str")
  | .lst _ => some (.type "list") | .tup _ => some (.type "tuple") | .dic _ => some (.type "dict") | .ins C _ => some (.ref C)
  | .ty _ => none | .exc _ _ _ _ => none | .mem _ _ => none
/-- what the top says of a class that isinstance meets -/
structure IC (K : PySem.W.Frag) (C : Addr) : Prop where
  cl : Cls K C
  ha : PySem.W.findIn K (.ref C) "__class__" = some (some (.builtin "object.__class__"))
  hn : PySem.W.specialIn K (.builtin "object.__class__") "__get__" = some (some (.builtin "getset_descriptor.__get__"))
  htk : PySem.W.takesIn K (.builtin "object.__class__") = some true
  hm : PySem.W.mroIn K C (.type "object") = some true
theorem tyX_of {K : PySem.W.Frag} {F : Fz} {H : Hp} {v : V} {d : D} {t : Value} (s : Sits F H) (h : View F H v d) (ht : tyD d = some t) (hi : ∀ C fs, d = .ins C fs → IC K C) : TyX K H v t := by
  cases d with
  | non => cases ht; rw [h.non]; exact .base .non
  | bl b => cases ht; rw [h.bl]; exact .base (.bl b)
  | int b => cases ht; rw [h.int]; exact .base (.int b)
  | str b => cases ht; rw [h.str]; exact .base (.str b)
  | lst xs =>
    cases ht
    obtain ⟨p, vs, rfl, hp, _⟩ := h.lst s
    rcases hp with e | ⟨o, e⟩
    · exact .base (.lst e)
    · exact .base (.frz e)
  | tup xs =>
    cases ht
    obtain ⟨p, vs, rfl, hp, _⟩ := h.tup s
    rcases hp with e | ⟨o, e⟩
    · exact .base (.tup e)
    · exact .fTuple e
  | dic xs =>
    cases ht
    obtain ⟨p, vs, rfl, hp, _⟩ := h.dic s
    rcases hp with e | ⟨o, e⟩
    · exact .base (.dK e)
    · exact .fDict e
  | ins C fs =>
    cases ht
    obtain ⟨p, dx, vs, rfl, hp, _⟩ := h.ins s
    obtain ⟨a1, a2, a3, a4, a5⟩ := hi C fs rfl
    exact .base (.ins hp a1 a2 a3 a4 a5)
  | ty _ => cases ht
  | exc _ _ _ _ => cases ht
  | mem _ _ => cases ht
def gIsi (K : PySem.W.Frag) (c : Value) (d : D) (b : Bool) : Prop := ∃ t, tyD d = some t ∧ PySem.W.kitOne K t c = some b ∧ ∀ C fs, d = .ins C fs → IC K C
def mIsi (g : D → Bool → Prop) (me : ME) : ME := fun ρ P => me ρ fun r ρ1 => ∃ d b, r.get ρ1 = some d ∧ g d b ∧ P (.val (.bl b)) ρ1
section
variable {X : Cx} {E : En} {e c : Expr} {p pos : Pos} {me : ME} {cv : V} {cu : Value}
theorem de_isi (hc : PE X c (tC cv)) (hv : ClsV cv cu) (he : DE X E e me) (hg : Gl X "isinstance") (hm : X.mg "isinstance" = none) (hs : starEach [e, c] X.env = (false, eval e X.env) :: starEach [c] X.env := by rfl) (hs2 : starEach [c] X.env = (false, eval c X.env) :: starEach [] X.env := by rfl)
    (hpl : (backTo pos (starEach [c] X.env)).any (·.1) = false := by rfl) : DE X E (.Call (.Name "isinstance" p) [e, c] [] pos) (mIsi (gIsi X.K cu) me) :=
  PE.to (pe_callB call_isi hg hm rfl (pa_cons he (pa_cons hc pa_nil hs2) hs) (by decide) (by decide) hs hpl) fun σ H Q ⟨F, ρ, P, S, hm, k⟩ =>
  ⟨F, ρ, _, S, hm, fun r ρ1 v H1 F1 ⟨d, b, g, ⟨t, ht, hk, hi⟩, hp⟩ S1 l1 d1 => ⟨v, cv, t, cu, b, rfl, hv, tyX_of S1.sits (S1.view d1 g) ht hi, hk, k _ _ _ H1 F1 hp S1 l1 (.bl _)⟩⟩
end
end DL
/-! DL18: a text's own operators. -/
namespace DL
open PySem L2
/-! ### an int at the left, an instance at the right -/
section
open PySem.Spec PyProof.Rows PySem.W
variable {prog : Program} {w : World} {A : Around} {E : Value → Shared → Prop} {s : Shared} {K : Frag} {x C L f g : Addr} {h₀ : Heap} {m : Str → Option Value} {ox : Obj} {od : Option Obj} {id : String}
/-- an int's own slot knows nothing of an instance -/
theorem int_declines {fn : Int → Int → Sem PySem.Fin} {a : Int} {t : Tok} {name : String} {dn : Str} {B : Builtin} (slot : Slot "int" dn id) (entry : entryFor table id = some B) (args : argsOk id ⟨[.int a t, .ref x], []⟩)
    (hB : B = Builtin.Int.intBinary name fn false) (hsl : slotArgs name 1 ⟨[.int a t, .ref x], []⟩ = pure (.int a t, [.ref x])) (hx : s.heap.get? x = some ox) (hd : ∀ v, ox.data ≠ .prim v) {Q : Value → Shared → Prop} (h : Q .notImplemented s) :
    wpAny (model prog w) A (call (.builtin id) [.int a t, .ref x]) Q E s := by
  refine wpAny_call (codeAny_call_builtin slot.plain entry (slot.check _ _ _ _ _ _ _ _ (typeIs_int s a t) args ?_))
  subst hB
  unfold Builtin.Int.intBinary
  rw [hsl]
  refine wpAny_bind (wpAny_pure ?_)
  unfold Builtin.Int.intOfSelf
  refine wpAny_bind (wpAny_bind (wpAny_pure (wpAny_pure ?_)))
  refine wpAny_bind ?_
  show wpAny _ _ (asInt? (.ref x)) _ _ _
  unfold asInt?
  refine wpAny_bind (wpAny_load hx ?_)
  cases e : ox.data with
  | prim v => exact absurd e (hd v)
  | _ => exact wpAny_pure (wpAny_bind (wpAny_rule (show wpAny (model prog w) A.in1 (pure (PySem.Fin.done (.ret .notImplemented))) _ _ s from wpAny_pure h)))
theorem refl_int {op : Operator} {n : Int} {t : Tok} {Q : Value → Shared → Prop} (X : K.In s.heap) (I : InstAt s.heap x ox C od) (hc : selfFirst K C = true) (hs : findIn K (.ref C) (PySem.dunder op.info.2) = some (some (.ref g)))
    (hr : findIn K (.ref C) (dunderR op.info.2) = some (some (.ref f))) (hf : isFn K (.ref f) = true) (hfi : fillsNumberSlot (.type "int") op.info.2 = pure true) (slot : Slot "int" (PySem.dunder op.info.2) id)
    (hsub : subIn K (.ref C) (.type "int") = some false) (dec : ∀ {Q : Value → Shared → Prop}, Q .notImplemented s → wpAny (model prog w) A (call (.builtin id) [.int n t, .ref x]) Q E s)
    (h : wpAny (model prog w) A (call (.ref f) [.ref x, .int n t]) (PySem.W.CmpBack Q) E s) : wpAny (model prog w) A (binaryOp op (.int n t) (.ref x)) Q E s := by
  obtain ⟨cd, rest, hcd, hm⟩ := ksp_first hc
  rcases hi : op.info with ⟨sym, nm⟩
  rw [hi] at hs hr hfi slot
  dsimp only at hs hr hfi slot
  have one := ksp_try X I hr hf h
  have L1 : Looks (model prog w) s.heap (typeOf (.ref x)) (.ref C) := I.type
  have L3 : Looks (model prog w) s.heap (fillsNumberSlot (.ref C) nm) true := fills_K X hcd hm hs
  have L5 : Looks (model prog w) s.heap (isSubtype (.ref C) (.type "int")) false := looks_subIn X hsub
  simp only [binaryOp, hi]
  refine wpAny_holding (wpAny_bind ?_)
  unfold binaryOp1
  refine wpAny_bind (wpAny_typeOf (typeIs_int s n t) (wpAny_bind (L1.here (wpAny_bind (wpAny_of_eq hfi ?_)))))
  have hne : (Value.type "int" == Value.ref C) = false := Bool.eq_false_iff.mpr fun q => by cases beq_iff_eq.mp q
  simp only [hne, Bool.false_eq_true, if_false]
  refine wpAny_bind (L3.here ?_)
  simp only [Bool.and_self, if_true, Bool.true_and]
  refine wpAny_bind (L5.here ?_)
  simp only [Bool.false_eq_true, if_false, Bool.not_false, if_true]
  refine wpAny_bind (wpAny_pure ?_)
  simp only [Bool.false_eq_true, if_false]
  refine wpAny_bind (wpAny_tryMethod_declines (typeIs_int s n t) slot (dec ⟨rfl, ?_⟩))
  dsimp only
  refine wpAny_bind (wpAny_mono one (fun r s' hr' => ?_) fun _ _ e => e)
  obtain ⟨v, rfl, hq⟩ := hr'
  exact wpAny_bind (wpAny_rule (wpAny_pure (wpAny_pure hq)))
end
/-! ### the hand layer's rules -/
section
variable {X : Cx}
/-- what the top says of an operator of a class, its def at f -/
structure OwnL (K : PySem.W.Frag) (C : Addr) (op : Operator) (f : Addr) : Prop where
  first : PySem.W.selfFirst K C = true
  l : PySem.W.findIn K (.ref C) (PySem.dunder op.info.2) = some (some (.ref f))
  r : ∃ rc, PySem.W.findIn K (.ref C) (dunderR op.info.2) = some rc ∧ (rc = none ∨ ∃ g : Addr, rc = some (.ref g))
  fl : PySem.W.isFn K (.ref f) = true
  li : ∃ fo, PySem.W.findIn K (.type "int") (PySem.dunder op.info.2) = some fo
  ri : ∃ fo, PySem.W.findIn K (.type "int") (dunderR op.info.2) = some fo
  ni : PySem.W.subIn K (.type "int") (.ref C) = some false
/-- of the reflected one, at g -/
structure OwnR (K : PySem.W.Frag) (C : Addr) (op : Operator) (f g : Addr) : Prop where
  to : OwnL K C op f
  r : PySem.W.findIn K (.ref C) (dunderR op.info.2) = some (some (.ref g))
  fr : PySem.W.isFn K (.ref g) = true
  no : PySem.W.subIn K (.ref C) (.type "int") = some false
/-- what of the int's own operator is needed -/
structure IntOp (op : Operator) : Prop where
  go : ∃ (id : String), fillsNumberSlot (.type "int") op.info.2 = pure true ∧ Slot "int" (PySem.dunder op.info.2) id ∧ ∀ {prog : Program} {w : World} {A : Around} {E : Value → Shared → Prop} {s : Shared} {n : Int} {t : Tok} {x : Addr} {ox : Obj} {Q : Value → Shared → Prop},
    s.heap.get? x = some ox → (∀ v, ox.data ≠ .prim v) → Q .notImplemented s → wpAny (model prog w) A (call (.builtin id) [.int n t, .ref x]) Q E s
theorem intOp_add : IntOp .Add := ⟨_, F.fills_int_add, F.slot_int_add, fun hx hd h => int_declines (name := "__add__") F.slot_int_add F.entry_int_add (F.args_int_add_2 _ _) rfl rfl hx hd h⟩
theorem intOp_sub : IntOp .Sub := ⟨_, F.fills_int_sub, F.slot_int_sub, fun hx hd h => int_declines (name := "__sub__") F.slot_int_sub F.entry_int_sub (F.args_int_sub_2 _ _) rfl rfl hx hd h⟩
theorem intOp_mul : IntOp .Mult := ⟨_, F.fills_int_mul, F.slot_int_mul, fun hx hd h => int_declines (name := "__mul__") F.slot_int_mul F.entry_int_mul (F.args_int_mul_2 _ _) rfl rfl hx hd h⟩
theorem intOp_and : IntOp .BitAnd := ⟨_, PyProof.Rows.fills_int_and, PyProof.Rows.slot_int_and, fun hx hd h => int_declines (name := "__and__") PyProof.Rows.slot_int_and PyProof.Rows.entry_int_and (PyProof.Rows.args_int_and _ _) rfl rfl hx hd h⟩
theorem intOp_or : IntOp .BitOr := ⟨_, PyProof.Rows.fills_int_or, PyProof.Rows.slot_int_or, fun hx hd h => int_declines (name := "__or__") PyProof.Rows.slot_int_or PyProof.Rows.entry_int_or (PyProof.Rows.args_int_or _ _) rfl rfl hx hd h⟩
/-- x op y, x an instance of the class, y too or an int -/
def rOwnL (C : Addr) (sp : Sp) (E : XK) : R2 := fun x y H Q => ∃ a dx fs, x = .ref a ∧ H a = some (.ins C dx fs) ∧ ((∃ b dy gs, y = .ref b ∧ H b = some (.ins C dy gs)) ∨ ∃ i, y = .int i) ∧ sp [x, y] H Q E
def rOwnR (C : Addr) (sp : Sp) (E : XK) : R2 := fun x y H Q => ∃ b dy gs i, x = .int i ∧ y = .ref b ∧ H b = some (.ins C dy gs) ∧ sp [y, x] H Q E
variable {op : Operator} {C f g : Addr} {CX : CXT} {k : Nat} {fd : FuncData} {ps : List Str} {sp : Sp} {E : XK}
theorem back_mono {pins : List (Addr × Obj)} {σ : L2.St} {Q : VK} {m : Sem Value} {s : Shared} {Ex : Value → Shared → Prop} (h : wpAny (model X.prog X.w) X.A m (EP X pins σ Q) Ex s) : wpAny (model X.prog X.w) X.A m (PySem.W.CmpBack (EP X pins σ Q)) Ex s :=
  wpAny_mono h (fun u s' hq => by
    obtain ⟨v, H', I, r, q⟩ := hq
    exact SlX.cmpback r ⟨v, H', I, r, q⟩) fun _ _ e => e
theorem op_ownL {pins : List (Addr × Obj)} {s : Shared} {σ : L2.St} {H : Hp} {x y : V} {v u : Value} {Q : VK} (T : OwnL X.K C op f) (G : FnG X.prog X.w X.K X.mg X.base CX k f fd ps sp) (hr : RoomG k X.A) (hb : Binds X.K fd ps []) (hx : PassesAt CX X σ E)
    (I : Inv X pins σ H s) (rx : RelV x v) (ry : RelV y u) (h : rOwnL C sp E x y H Q) : wpAny (model X.prog X.w) X.A (binaryOp op v u) (EP X pins σ Q) X.xe s := by
  obtain ⟨a, dx, fs, rfl, ea, hy, hs⟩ := h
  obtain ⟨mA, O, _⟩ := ins_get I.hok ea
  obtain ⟨od, J, _⟩ := O.look
  obtain ⟨mm, hF⟩ := I.fr
  have go := back_mono (run_fnG (W' := fun _ => E) (ds := []) (dvs := []) G hr hb .nil hx I (.cons rx (.cons ry .nil)) (by simpa using hs))
  cases rx
  rcases hy with ⟨b, dy, gs, rfl, eb⟩ | ⟨i, rfl⟩
  · cases ry
    obtain ⟨mB, O', _⟩ := ins_get I.hok eb
    obtain ⟨od', J', _⟩ := O'.look
    exact PySem.W.binop_K hF I.ok.mod.kin J J'.type T.first T.l T.fl go
  · obtain ⟨t, rfl⟩ := ry
    obtain ⟨rc, r1, r2⟩ := T.r
    obtain ⟨fo, h1⟩ := T.li
    obtain ⟨ro, h2⟩ := T.ri
    exact PySem.W.ksp_binT (T := "int") hF I.ok.mod.kin J rfl T.first T.l T.fl r1 r2 h1 h2 T.ni go
theorem op_ownR {pins : List (Addr × Obj)} {s : Shared} {σ : L2.St} {H : Hp} {x y : V} {v u : Value} {Q : VK} (T : OwnR X.K C op f g) (hi : IntOp op) (G : FnG X.prog X.w X.K X.mg X.base CX k g fd ps sp) (hr : RoomG k X.A) (hb : Binds X.K fd ps []) (hx : PassesAt CX X σ E)
    (I : Inv X pins σ H s) (rx : RelV x v) (ry : RelV y u) (h : rOwnR C sp E x y H Q) : wpAny (model X.prog X.w) X.A (binaryOp op v u) (EP X pins σ Q) X.xe s := by
  obtain ⟨b, dy, gs, i, rfl, rfl, eb, hs⟩ := h
  obtain ⟨mB, O, _⟩ := ins_get I.hok eb
  obtain ⟨od, J, _⟩ := O.look
  have go := back_mono (run_fnG (W' := fun _ => E) (ds := []) (dvs := []) G hr hb .nil hx I (.cons ry (.cons rx .nil)) (by simpa using hs))
  cases ry
  obtain ⟨t, rfl⟩ := rx
  obtain ⟨id, h1, h2, h3⟩ := hi.go
  exact refl_int I.kIn J T.to.first T.to.l T.r T.fr h1 h2 T.no (fun q => h3 J.at_ (fun v e => by cases e) q) go
end
section
variable {X : Cx} {E : En} {e a b : Expr} {pos : Pos} {op : Operator} {C f g : Addr} {CL CR : CXT} {kl kr : Nat} {fdl fdr : FuncData} {psl psr : List Str} {spL spR : DSp} {EX : DX} {W : WX} {ma mb : ME}
def isC (C : Addr) : D → Bool
  | .ins C' _ => C' == C
  | _ => false
def isI : D → Bool
  | .int _ => true
  | _ => false
/-- a op b: by the left one's def, or by the right one's reflected one -/
def mOwn (C : Addr) (spL spR : DSp) (EX : DX) (ma mb : ME) : ME := fun ρ P => ma ρ fun r1 ρ1 => mb ρ1 fun r2 ρ2 => ∃ d1 d2, r1.get ρ2 = some d1 ∧ r2.get ρ2 = some d2 ∧
  ((isC C d1 = true ∧ (isC C d2 || isI d2) = true ∧ ∃ as ρ3 is, hand [false, false] ρ2 [r1, r2] = some (as, ρ3, is) ∧ spL as (dkOf ρ3 is EX (fun d ρ4 => P (.val d) ρ4) fun d ρ4 => P (.val d) ρ4)) ∨
    (isI d1 = true ∧ isC C d2 = true ∧ ∃ as ρ3 is, hand [false, false] ρ2 [r2, r1] = some (as, ρ3, is) ∧ spR as (dkOf ρ3 is EX (fun d ρ4 => P (.val d) ρ4) fun d ρ4 => P (.val d) ρ4)))
theorem isC_ins {C : Addr} {d : D} (h : isC C d = true) : ∃ fs, d = .ins C fs := by
  cases d with
  | ins C' fs => exact ⟨fs, by rw [beq_iff_eq.mp h]⟩
  | _ => cases h
theorem isI_int {d : D} (h : isI d = true) : ∃ i, d = .int i := by
  cases d with
  | int i => exact ⟨i, rfl⟩
  | _ => cases h
theorem de_own (T : OwnR X.K C op f g) (hi : IntOp op) (GL : FnG X.prog X.w X.K X.mg X.base CL kl f fdl psl (liftSp spL)) (GR : FnG X.prog X.w X.K X.mg X.base CR kr g fdr psr (liftSp spR)) (hrl : RoomG kl X.A) (hrr : RoomG kr X.A) (hbl : Binds X.K fdl psl []) (hbr : Binds X.K fdr psr [])
    (lk : Lk E EX W) (hxl : PassW CL X W) (hxr : PassW CR X W) (ha : DE X E a ma) (hb : DE X E b mb) : DE X E (.BinOp a op b pos) (mOwn C spL spR EX ma mb) := ⟨fun pins s σ H Q I h => by
  obtain ⟨F, ρ, P, S, hm, k⟩ := h
  refine wpAny_BinOp (binT ha hb (R := fun x y H2 => rOwnL C (liftSp spL) (WE W σ) x y H2 Q ∨ rOwnR C (liftSp spR) (WE W σ) x y H2 Q) I
    ⟨F, ρ, _, S, hm, fun r1 ρ1 v H1 F1 hn S1 l1 d1 => ⟨F1, ρ1, _, S1, hn, fun r2 ρ2 y H2 F2 ⟨x1, x2, g1, g2, hh⟩ S2 l2 d2 => ?_⟩⟩ fun v u s2 x y H2 I2 rx ry q => ?_)
  · have l := l1.trans l2
    have v1 := S2.view (d1.mono l2) g1
    have v2 := S2.view d2 g2
    rcases hh with ⟨c1, c2, as, ρ3, is, hd, hs⟩ | ⟨c1, c2, as, ρ3, is, hd, hs⟩
    · obtain ⟨fs, rfl⟩ := isC_ins c1
      obtain ⟨a0, dx, vs, rfl, hH, _⟩ := v1.ins S2.sits
      refine .inl ⟨a0, dx, vs, rfl, hH, ?_, ?_⟩
      · rcases Bool.or_eq_true_iff.mp c2 with c2 | c2
        · obtain ⟨gs, rfl⟩ := isC_ins c2
          obtain ⟨b0, dy, ws, rfl, hH2, _⟩ := v2.ins S2.sits
          exact .inl ⟨b0, dy, ws, rfl, hH2⟩
        · obtain ⟨i, rfl⟩ := isI_int c2
          exact .inr ⟨i, v2.int⟩
      · obtain ⟨F3, l3, S3, a3⟩ := SR.handed (vs := [.ref a0, y]) (rs := [r1, r2]) S2 ⟨d1.mono l2, d2, trivial⟩ hd
        have := S3.ask (W := W) (dvs := []) (df := []) (sp := spL) (Q := Q) a3 .nil lk (by simpa using hs) (fun d ρ4 v H' F' hp S' l' r => k (.val d) _ _ H' F' hp S' ((l.trans l3).trans l') r) fun d ρ4 p H' F' hp S' l' N => by
          obtain ⟨F4, l4, S4, r4⟩ := S'.freeze N
          exact k (.val d) _ _ H' F4 hp S4 (((l.trans l3).trans l').trans l4) r4
        simpa using this
    · obtain ⟨i, rfl⟩ := isI_int c1
      obtain ⟨gs, rfl⟩ := isC_ins c2
      obtain ⟨b0, dy, ws, rfl, hH2, _⟩ := v2.ins S2.sits
      refine .inr ⟨b0, dy, ws, i, v1.int, rfl, hH2, ?_⟩
      obtain ⟨F3, l3, S3, a3⟩ := SR.handed (vs := [.ref b0, v]) (rs := [r2, r1]) S2 ⟨d2, d1.mono l2, trivial⟩ hd
      have := S3.ask (W := W) (dvs := []) (df := []) (sp := spR) (Q := Q) a3 .nil lk (by simpa using hs) (fun d ρ4 v H' F' hp S' l' r => k (.val d) _ _ H' F' hp S' ((l.trans l3).trans l') r) fun d ρ4 p H' F' hp S' l' N => by
        obtain ⟨F4, l4, S4, r4⟩ := S'.freeze N
        exact k (.val d) _ _ H' F4 hp S4 (((l.trans l3).trans l').trans l4) r4
      simpa using this
  · rcases q with q | q
    · exact op_ownL T.to GL hrl hbl (hxl σ) I2 rx ry q
    · exact op_ownR T hi GR hrr hbr (hxr σ) I2 rx ry q⟩
/-- by the left one's def alone -/
def noS : DSp := fun _ _ => False
theorem de_ownL (T : OwnL X.K C op f) (GL : FnG X.prog X.w X.K X.mg X.base CL kl f fdl psl (liftSp spL)) (hrl : RoomG kl X.A) (hbl : Binds X.K fdl psl [])
    (lk : Lk E EX W) (hxl : PassW CL X W) (ha : DE X E a ma) (hb : DE X E b mb) : DE X E (.BinOp a op b pos) (mOwn C spL noS EX ma mb) := ⟨fun pins s σ H Q I h => by
  obtain ⟨F, ρ, P, S, hm, k⟩ := h
  refine wpAny_BinOp (binT ha hb (R := fun x y H2 => rOwnL C (liftSp spL) (WE W σ) x y H2 Q) I
    ⟨F, ρ, _, S, hm, fun r1 ρ1 v H1 F1 hn S1 l1 d1 => ⟨F1, ρ1, _, S1, hn, fun r2 ρ2 y H2 F2 ⟨x1, x2, g1, g2, hh⟩ S2 l2 d2 => ?_⟩⟩ fun v u s2 x y H2 I2 rx ry q => op_ownL T GL hrl hbl (hxl σ) I2 rx ry q)
  have l := l1.trans l2
  have v1 := S2.view (d1.mono l2) g1
  have v2 := S2.view d2 g2
  rcases hh with ⟨c1, c2, as, ρ3, is, hd, hs⟩ | ⟨c1, c2, as, ρ3, is, hd, hs⟩
  · obtain ⟨fs, rfl⟩ := isC_ins c1
    obtain ⟨a0, dx, vs, rfl, hH, _⟩ := v1.ins S2.sits
    refine ⟨a0, dx, vs, rfl, hH, ?_, ?_⟩
    · rcases Bool.or_eq_true_iff.mp c2 with c2 | c2
      · obtain ⟨gs, rfl⟩ := isC_ins c2
        obtain ⟨b0, dy, ws, rfl, hH2, _⟩ := v2.ins S2.sits
        exact .inl ⟨b0, dy, ws, rfl, hH2⟩
      · obtain ⟨i, rfl⟩ := isI_int c2
        exact .inr ⟨i, v2.int⟩
    · obtain ⟨F3, l3, S3, a3⟩ := SR.handed (vs := [.ref a0, y]) (rs := [r1, r2]) S2 ⟨d1.mono l2, d2, trivial⟩ hd
      have := S3.ask (W := W) (dvs := []) (df := []) (sp := spL) (Q := Q) a3 .nil lk (by simpa using hs) (fun d ρ4 v H' F' hp S' l' r => k (.val d) _ _ H' F' hp S' ((l.trans l3).trans l') r) fun d ρ4 p H' F' hp S' l' N => by
        obtain ⟨F4, l4, S4, r4⟩ := S'.freeze N
        exact k (.val d) _ _ H' F4 hp S4 (((l.trans l3).trans l').trans l4) r4
      simpa using this
  · exact hs.elim⟩
/-- ~a -/
def mInv (C : Addr) (sp : DSp) (EX : DX) (m : ME) : ME := fun ρ P => m ρ fun r ρ1 => ∃ d as ρ2 is, r.get ρ1 = some d ∧ isC C d = true ∧ hand [false] ρ1 [r] = some (as, ρ2, is) ∧ sp as (dkOf ρ2 is EX (fun d ρ3 => P (.val d) ρ3) fun d ρ3 => P (.val d) ρ3)
theorem de_inv (hs : PySem.W.findIn X.K (.ref C) "__invert__" = some (some (.ref f))) (hf : PySem.W.isFn X.K (.ref f) = true) (G : FnG X.prog X.w X.K X.mg X.base CL kl f fdl psl (liftSp spL)) (hr : RoomG kl X.A) (hb : Binds X.K fdl psl [])
    (lk : Lk E EX W) (hx : PassW CL X W) (ha : DE X E a ma) : DE X E (.UnaryOp .Invert a pos) (mInv C spL EX ma) := ⟨fun pins s σ H Q I h => by
  obtain ⟨F, ρ, P, S, hm, k⟩ := h
  refine PyProof.Rows.UnaryOp_ (thn (ha.run pins s σ H (fun x H1 => (∃ a dx fs, x = .ref a ∧ H1 a = some (.ins C dx fs)) ∧ liftSp spL [x] H1 Q (WE W σ)) I ⟨F, ρ, _, S, hm, fun r ρ1 v H1 F1 ⟨d, as, ρ2, is, g, c, hd, hs⟩ S1 l1 d1 => ?_⟩) fun v s1 ⟨x, H1, I1, r1, ⟨a0, dx, fs, ex, ea⟩, q1⟩ => ?_)
  · obtain ⟨fs, rfl⟩ := isC_ins c
    obtain ⟨a0, dx, vs, rfl, hH, _⟩ := (S1.view d1 g).ins S1.sits
    refine ⟨⟨a0, dx, vs, rfl, hH⟩, ?_⟩
    obtain ⟨F3, l3, S3, a3⟩ := SR.handed (vs := [.ref a0]) (rs := [r]) S1 ⟨d1, trivial⟩ hd
    have := S3.ask (W := W) (dvs := []) (df := []) (sp := spL) (Q := Q) a3 .nil lk (by simpa using hs) (fun d ρ4 v H' F' hp S' l' r => k (.val d) _ _ H' F' hp S' ((l1.trans l3).trans l') r) fun d ρ4 p H' F' hp S' l' N => by
      obtain ⟨F4, l4, S4, r4⟩ := S'.freeze N
      exact k (.val d) _ _ H' F4 hp S4 (((l1.trans l3).trans l').trans l4) r4
    simpa using this
  · subst ex
    obtain ⟨mB, O, _⟩ := ins_get I1.hok ea
    obtain ⟨od, J, _⟩ := O.look
    obtain ⟨mm, hF⟩ := I1.fr
    have go := run_fnG (W' := fun _ => WE W σ) (ds := []) (dvs := []) G hr hb .nil (hx σ) I1 (.cons r1 .nil) (by simpa using q1)
    cases r1
    exact PySem.W.ksp_inv hF I1.ok.mod.kin J hs hf go⟩
end
end DL
/-! DL19: calls without arguments; keywords. -/
namespace DL
open PySem L2
def pick {α : Type} (is : List Nat) (xs : List α) : List α := is.filterMap fun i => xs[i]?
/-- how a call with n plain arguments and the keywords ks binds: the parameters' order by is -/
structure KB (K : PySem.W.Frag) (fd : FuncData) (ps ks : List Str) (n : Nat) (is : List Nat) : Prop where
  to : ∀ (s : Shared) (us ws : List Value), us.length = n → ws.length = ks.length → BindsTo s fd ⟨us, ks.zip ws⟩ (ps.zip (pick is (us ++ ws)))
  len : ∀ (us ws : List Value), us.length = n → ws.length = ks.length → (pick is (us ++ ws)).length = ps.length
theorem Vals.idx {vs : List V} {us : List Value} (r : Vals vs us) (i : Nat) : (∃ v u, vs[i]? = some v ∧ us[i]? = some u ∧ RelV v u) ∨ (vs[i]? = none ∧ us[i]? = none) := by
  induction r generalizing i with
  | nil => exact .inr ⟨by simp, by simp⟩
  | cons h r ih =>
    cases i with
    | zero => exact .inl ⟨_, _, by simp, by simp, h⟩
    | succ i => simpa using ih i
theorem Vals.pick {vs : List V} {us : List Value} (r : Vals vs us) : ∀ is : List Nat, Vals (pick is vs) (pick is us)
  | [] => .nil
  | i :: is => by
    have t := Vals.pick r is
    rcases Vals.idx r i with ⟨v, u, e1, e2, h⟩ | ⟨e1, e2⟩
    · simp only [DL.pick, List.filterMap_cons, e1, e2]
      exact .cons h t
    · simp only [DL.pick, List.filterMap_cons, e1, e2]
      exact t
theorem VDens.len {σ : L2.St} {F : Fz} : ∀ {vs : List V} {rs : List Rf}, VDens σ F vs rs → vs.length = rs.length
  | [], [], _ => rfl
  | _ :: _, _ :: _, ⟨_, r⟩ => congrArg (· + 1) r.len
theorem VDens.app {σ : L2.St} {F : Fz} : ∀ {vs ws : List V} {rs qs : List Rf}, VDens σ F vs rs → VDens σ F ws qs → VDens σ F (vs ++ ws) (rs ++ qs)
  | [], _, [], _, _, h => h
  | _ :: _, _, _ :: _, _, ⟨a, r⟩, h => ⟨a, r.app h⟩
theorem VDens.idx {σ : L2.St} {F : Fz} : ∀ {vs : List V} {rs : List Rf} (i : Nat), VDens σ F vs rs → (∃ v r, vs[i]? = some v ∧ rs[i]? = some r ∧ VDen σ F v r) ∨ (vs[i]? = none ∧ rs[i]? = none)
  | [], [], i, _ => .inr ⟨by simp, by simp⟩
  | v :: _, r :: _, 0, ⟨a, _⟩ => .inl ⟨v, r, by simp, by simp, a⟩
  | _ :: _, _ :: _, i + 1, ⟨_, r⟩ => by simpa using VDens.idx i r
theorem VDens.pick {σ : L2.St} {F : Fz} {vs : List V} {rs : List Rf} (r : VDens σ F vs rs) : ∀ is : List Nat, VDens σ F (pick is vs) (pick is rs)
  | [] => trivial
  | i :: is => by
    have t := VDens.pick r is
    rcases VDens.idx i r with ⟨v, u, e1, e2, h⟩ | ⟨e1, e2⟩
    · simp only [DL.pick, List.filterMap_cons, e1, e2]
      exact ⟨h, t⟩
    · simp only [DL.pick, List.filterMap_cons, e1, e2]
      exact t
section
variable {X : Cx} {E : En} {e o : Expr} {es : List Expr} {p pos apos kpos : Pos} {x m : Str} {f C : Addr} {fd : FuncData} {CX : CXT} {k : Nat} {ps ks : List Str} {ds : List Value} {dvs : List V} {df : List D} {sp : DSp} {ms : List Bool} {EX : DX} {W : WX} {ma mk : MA} {me mo : ME} {n : Nat} {is : List Nat} {kws : List Keyword} {nm : Option Str}
open PySem.Spec PyProof.Rows in
theorem pe_callG0 {sp : Sp} {W' : L2.St → XK} (G : FnG X.prog X.w X.K X.mg X.base CX k f fd ps sp) (hr : RoomG k X.A) (hg : Gl X x) (hm : X.mg x = some (.ref f)) (hk : PySem.W.keepIn X.K (.ref f) = true) (hb : Binds X.K fd ps ds) (hd : Vals dvs ds) (hx : ∀ σ, PassesAt CX X σ (W' σ))
    (hdb : (x == ("__debug__" : Str)) = false := by decide) : PE X (.Call (.Name x p) [] [] pos) (tCallSD sp dvs W' tNil) := ⟨fun pins s σ H Q I h =>
  wpAny_Call_Name_kw (ld_glob I hg hm (PySem.W.callWith_K0 I.kIn hk (run_fnG (us := []) G hr hb hd (hx σ) I .nil h)) hdb)⟩
theorem tCall_nil {sp : Sp} {W' : L2.St → XK} {σ : L2.St} {H : Hp} {Q : VK} (h : tCallSD sp dvs W' (tLA E mNil) σ H Q) : tCallSD sp dvs W' tNil σ H Q := by
  obtain ⟨F, ρ, P, S, hp, k⟩ := h
  exact k [] ρ [] H F hp S .refl trivial
/-- f() -/
theorem de_call0 (G : FnG X.prog X.w X.K X.mg X.base CX k f fd ps (liftSp sp)) (hr : RoomG k X.A) (hg : Gl X x) (hm : X.mg x = some (.ref f)) (hk : PySem.W.keepIn X.K (.ref f) = true) (hb : Binds X.K fd ps ds) (hd : Vals dvs ds) (hdf : ∀ F, Reps F dvs df) (lk : Lk E EX W) (hx : PassW CX X W)
    (hdb : (x == ("__debug__" : Str)) = false := by decide) : DE X E (.Call (.Name x p) [] [] pos) (mCall sp [] df EX mNil) := PE.to (pe_callG0 G hr hg hm hk hb hd hx hdb) fun σ H Q h => tCall_nil (call_to lk hdf σ H Q h)
theorem do_call0 (G : FnG X.prog X.w X.K X.mg X.base CX k f fd ps (liftSp sp)) (hr : RoomG k X.A) (hg : Gl X x) (hm : X.mg x = some (.ref f)) (hk : PySem.W.keepIn X.K (.ref f) = true) (hb : Binds X.K fd ps ds) (hd : Vals dvs ds) (hdf : ∀ F, Reps F dvs df) (lk : Lk E EX W) (hx : PassW CX X W)
    (hdb : (x == ("__debug__" : Str)) = false := by decide) : DO X E (.Call (.Name x p) [] [] pos) (mCallO sp [] df EX mNil) := PE.to (pe_callG0 G hr hg hm hk hb hd hx hdb) fun σ H Q h => tCall_nil (callO_to lk hdf σ H Q h)
/-! ### keywords -/
abbrev DKw (X : Cx) (E : En) (kws : List Keyword) (m : MA) : Prop := PK X kws (tLA E m)
theorem PK.to {t u : TA} (h : PK X kws t) (g : ∀ σ H Q, u σ H Q → t σ H Q) : PK X kws u := ⟨fun p pins s σ H Q I q => h.run p pins s σ H Q I (g σ H Q q)⟩
theorem dk_nil : DKw X E [] mNil := PK.to pk_nil fun σ H Q ⟨F, ρ, P, S, hp, k⟩ => k [] ρ [] H F hp S .refl trivial
theorem dk_cons (h : DE X E e me) (hr : DKw X E kws mk) : DKw X E (⟨nm, e, kpos⟩ :: kws) (mCons me mk) := PK.to (pk_cons h hr) fun σ H Q ⟨F, ρ, P, S, hm, k⟩ =>
  ⟨F, ρ, _, S, hm, fun r ρ1 v H1 F1 hn S1 l1 d1 => ⟨F1, ρ1, _, S1, hn, fun rs ρ2 vs H2 F2 hp S2 l2 d2 => k _ _ _ H2 F2 hp S2 (l1.trans l2) ⟨d1.mono l2, d2⟩⟩⟩
def tKw (sp : Sp) (n nk : Nat) (is : List Nat) (W' : L2.St → XK) (t tk : TA) : TE := fun σ H Q => t σ H fun vs H1 => vs.length = n ∧ tk σ H1 fun zs H2 => zs.length = nk ∧ sp (pick is (vs ++ zs)) H2 Q (W' σ)
open PySem.Spec PyProof.Rows in
theorem run_fnKw {sp : Sp} {W' : L2.St → XK} {pins : List (Addr × Obj)} {σ : L2.St} {H : Hp} {s : Shared} {Q : VK} {us ws : List Value} {vs zs : List V} (G : FnG X.prog X.w X.K X.mg X.base CX k f fd ps sp) (hr : RoomG k X.A) (hb : KB X.K fd ps ks n is) (hx : PassesAt CX X σ (W' σ))
    (I : Inv X pins σ H s) (r : Vals vs us) (rz : Vals zs ws) (hn : vs.length = n) (hw : zs.length = ks.length) (h : sp (pick is (vs ++ zs)) H Q (W' σ)) : wpAny (model X.prog X.w) X.A (call (.ref f) us (ks.zip ws)) (EP X pins σ Q) X.xe s := by
  have l1 : us.length = n := r.length.symm.trans hn
  have l2 : ws.length = ks.length := rz.length.symm.trans hw
  refine wpAny_call (codeAny_mono (G.go X.A X.stack s H ⟨us, ks.zip ws⟩ (pick is (us ++ ws)) (pick is (vs ++ zs)) Q (W' σ) hr I.env0 (hb.to s us ws l1 l2) (Vals.pick (r.append rz) is) h) fun z s' hq => ?_)
  cases z with
  | ok fl => cases fl with
    | ret u => exact I.after hq
    | next => exact hq.elim
    | brk => exact hq.elim
    | cont => exact hq.elim
  | error er => exact hx pins H s er s' I hq
open PySem.Spec PyProof.Rows in
theorem pe_callKw {sp : Sp} {W' : L2.St → XK} {t tk : TA} (G : FnG X.prog X.w X.K X.mg X.base CX k f fd ps sp) (hr : RoomG k X.A) (hg : Gl X x) (hm : X.mg x = some (.ref f)) (hk : PySem.W.keepIn X.K (.ref f) = true) (hb : KB X.K fd ps ks n is) (hx : ∀ σ, PassesAt CX X σ (W' σ))
    (ha : PA X (e :: es) t) (hkw : PK X kws tk) (hall : (backToKw pos (keywordEach kws X.env)).all (·.1.isSome) = true := by rfl) (hks : (backToKw pos (keywordEach kws X.env)).filterMap (·.1) = ks := by rfl)
    (hdb : (x == ("__debug__" : Str)) = false := by decide) (he : starEach (e :: es) X.env = (false, eval e X.env) :: starEach es X.env := by rfl)
    (hpl : ((backTo pos (starEach (e :: es) X.env)).any (·.1) || (backToKw pos (keywordEach kws X.env)).any (·.1.isNone)) = false := by rfl) :
    PE X (.Call (.Name x p) (e :: es) kws pos) (tKw sp n ks.length is W' t tk) := by
  refine ⟨fun pins s σ H Q I h => wpAny_Call_Name_kw (ld_glob I hg hm ?_ hdb)⟩
  refine PySem.W.callWith_KW (h₀ := X.base) I.ok.mod.kin hk hall (thn (ha.run pos pins s σ H _ I h) fun us s1 ⟨vs, H1, I1, r, hn, q⟩ => ?_) hpl he
  refine thn (hkw.run pos pins s1 σ H1 _ I1 q) fun ws s2 ⟨zs, H2, I2, rz, hw, q2⟩ => ⟨I2.kIn, ?_⟩
  rw [hks]
  exact run_fnKw G hr hb (hx σ) I2 r rz hn hw q2
open PySem.Spec PyProof.Rows in
theorem pe_callKw0 {sp : Sp} {W' : L2.St → XK} {tk : TA} (G : FnG X.prog X.w X.K X.mg X.base CX k f fd ps sp) (hr : RoomG k X.A) (hg : Gl X x) (hm : X.mg x = some (.ref f)) (hk : PySem.W.keepIn X.K (.ref f) = true) (hb : KB X.K fd ps ks 0 is) (hx : ∀ σ, PassesAt CX X σ (W' σ))
    (hkw : PK X kws tk) (hall : (backToKw pos (keywordEach kws X.env)).all (·.1.isSome) = true := by rfl) (hks : (backToKw pos (keywordEach kws X.env)).filterMap (·.1) = ks := by rfl)
    (hdb : (x == ("__debug__" : Str)) = false := by decide) (hpl : ((backTo pos (starEach [] X.env)).any (·.1) || (backToKw pos (keywordEach kws X.env)).any (·.1.isNone)) = false := by rfl) :
    PE X (.Call (.Name x p) [] kws pos) (tKw sp 0 ks.length is W' tNil tk) := by
  refine ⟨fun pins s σ H Q I ⟨_, h⟩ => wpAny_Call_Name_kw (ld_glob I hg hm ?_ hdb)⟩
  refine PySem.W.callWith_KW0 (h₀ := X.base) I.ok.mod.kin hk hall ?_ hpl
  refine thn (hkw.run pos pins s σ H _ I h) fun ws s2 ⟨zs, H2, I2, rz, hw, q2⟩ => ⟨I2.kIn, ?_⟩
  rw [hks]
  exact run_fnKw (us := []) (vs := []) G hr hb (hx σ) I2 .nil rz rfl hw q2
def mKw (sp : DSp) (ms : List Bool) (n nk : Nat) (is : List Nat) (EX : DX) (ma mk : MA) : ME := fun ρ P => ma ρ fun rs ρ1 => rs.length = n ∧ mk ρ1 fun qs ρ2 => qs.length = nk ∧ ∃ as ρ3 ix, hand ms ρ2 (pick is (rs ++ qs)) = some (as, ρ3, ix) ∧ sp as (dkOf ρ3 ix EX (fun d ρ4 => P (.val d) ρ4) fun d ρ4 => P (.val d) ρ4)
theorem kw_to (lk : Lk E EX W) : ∀ σ H Q, tL E (mKw sp ms n ks.length is EX ma mk) σ H Q → tKw (liftSp sp) n ks.length is (WE W) (tLA E ma) (tLA E mk) σ H Q := fun σ H Q ⟨F, ρ, P, S, hm, kk⟩ =>
  ⟨F, ρ, _, S, hm, fun rs ρ1 vs H1 F1 ⟨hn, h1⟩ S1 l1 d1 => ⟨d1.len.trans hn, F1, ρ1, _, S1, h1, fun qs ρ2 zs H2 F2 ⟨hk, as, ρ3, ix, hh, hs⟩ S2 l2 d2 => ⟨d2.len.trans hk, by
    obtain ⟨F3, l3, S3, a3⟩ := SR.handed S2 (((d1.mono l2).app d2).pick is) hh
    have := S3.ask (W := W) (dvs := []) (df := []) (sp := sp) (Q := Q) a3 .nil lk (by simpa using hs) (fun d ρ4 v H' F' hp S' l' r => kk (.val d) _ _ H' F' hp S' (((l1.trans l2).trans l3).trans l') r) fun d ρ4 p H' F' hp S' l' N => by
      obtain ⟨F4, l4, S4, r4⟩ := S'.freeze N
      exact kk (.val d) _ _ H' F4 hp S4 ((((l1.trans l2).trans l3).trans l').trans l4) r4
    simpa using this⟩⟩⟩
theorem de_callKw (G : FnG X.prog X.w X.K X.mg X.base CX k f fd ps (liftSp sp)) (hr : RoomG k X.A) (hg : Gl X x) (hm : X.mg x = some (.ref f)) (hk : PySem.W.keepIn X.K (.ref f) = true) (hb : KB X.K fd ps ks n is) (lk : Lk E EX W) (hx : PassW CX X W) (ms : List Bool)
    (ha : DA X E (e :: es) ma) (hkw : DKw X E kws mk) (hall : (backToKw pos (keywordEach kws X.env)).all (·.1.isSome) = true := by rfl) (hks : (backToKw pos (keywordEach kws X.env)).filterMap (·.1) = ks := by rfl)
    (hdb : (x == ("__debug__" : Str)) = false := by decide) (he : starEach (e :: es) X.env = (false, eval e X.env) :: starEach es X.env := by rfl)
    (hpl : ((backTo pos (starEach (e :: es) X.env)).any (·.1) || (backToKw pos (keywordEach kws X.env)).any (·.1.isNone)) = false := by rfl) :
    DE X E (.Call (.Name x p) (e :: es) kws pos) (mKw sp ms n ks.length is EX ma mk) := PE.to (pe_callKw G hr hg hm hk hb hx ha hkw hall hks hdb he hpl) (kw_to lk)
theorem kw_nil {sp : Sp} {W' : L2.St → XK} {t : TA} {nk : Nat} {σ : L2.St} {H : Hp} {Q : VK} (h : tKw sp 0 nk is W' (tLA E mNil) t σ H Q) : tKw sp 0 nk is W' tNil t σ H Q := by
  obtain ⟨F, ρ, P, S, hp, k⟩ := h
  exact k [] ρ [] H F hp S .refl trivial
theorem de_callKw0 (G : FnG X.prog X.w X.K X.mg X.base CX k f fd ps (liftSp sp)) (hr : RoomG k X.A) (hg : Gl X x) (hm : X.mg x = some (.ref f)) (hk : PySem.W.keepIn X.K (.ref f) = true) (hb : KB X.K fd ps ks 0 is) (lk : Lk E EX W) (hx : PassW CX X W) (ms : List Bool)
    (hkw : DKw X E kws mk) (hall : (backToKw pos (keywordEach kws X.env)).all (·.1.isSome) = true := by rfl) (hks : (backToKw pos (keywordEach kws X.env)).filterMap (·.1) = ks := by rfl)
    (hdb : (x == ("__debug__" : Str)) = false := by decide) (hpl : ((backTo pos (starEach [] X.env)).any (·.1) || (backToKw pos (keywordEach kws X.env)).any (·.1.isNone)) = false := by rfl) :
    DE X E (.Call (.Name x p) [] kws pos) (mKw sp ms 0 ks.length is EX mNil mk) := PE.to (pe_callKw0 G hr hg hm hk hb hx hkw hall hks hdb hpl) fun σ H Q h => kw_nil (kw_to lk σ H Q h)
/-! ### methods by keywords -/
def tMKw (C : Addr) (m : Str) (sp : Sp) (nk : Nat) (is : List Nat) (W' : L2.St → XK) (ta : TE) (tk : TA) : TE := fun σ H Q => ta σ H fun x H1 => ∃ a dx fs, x = .ref a ∧ H1 a = some (.ins C dx fs) ∧ fs.lookup m = none ∧ tk σ H1 fun zs H2 => zs.length = nk ∧ sp (pick is (.ref a :: zs)) H2 Q (W' σ)
open PySem.Spec PyProof.Rows in
theorem pe_methKw {sp : Sp} {W' : L2.St → XK} {ta : TE} {tk : TA} {pl : Sem Bool} (he : PE X o ta) (c : Cls X.K C) (hm : Meth X.K C m f) (G : FnG X.prog X.w X.K X.mg X.base CX k f fd ps sp) (hr : RoomG k X.A) (hb : KB X.K fd ps ks 1 is) (hx : ∀ σ, PassesAt CX X σ (W' σ)) (hkw : PK X kws tk)
    (ht : eval (.Call (.Attribute o m apos) [] kws pos) X.env = (do
      let ov ← eval o X.env
      standAt apos.atName
      let (f, first) ← holding [ov] (getMethod ov m pl)
      callWith pos f first (backTo pos (starEach [] X.env)) (backToKw pos (keywordEach kws X.env))) := by rfl)
    (hall : (backToKw pos (keywordEach kws X.env)).all (·.1.isSome) = true := by rfl) (hks : (backToKw pos (keywordEach kws X.env)).filterMap (·.1) = ks := by rfl)
    (hpl : ((backTo pos (starEach [] X.env)).any (·.1) || (backToKw pos (keywordEach kws X.env)).any (·.1.isNone)) = false := by rfl) :
    PE X (.Call (.Attribute o m apos) [] kws pos) (tMKw C m sp ks.length is W' ta tk) := by
  refine ⟨fun pins s σ H Q I h => ?_⟩
  refine PySem.W.methodCall_KW (pl := pl) (thn (he.run pins s σ H _ I h) fun u s1 ⟨x, H1, I1, rx, a, dx, fs, ex, ea, l, q⟩ => ?_) ht
  subst ex
  obtain rfl : u = Value.ref a := rx
  refine getmeth_ok I1 ea c hm l ?_
  refine PySem.W.callWith_KW0 (first := [.ref a]) (h₀ := X.base) I1.ok.mod.kin hm.kp hall ?_ hpl
  refine thn (hkw.run pos pins s1 σ H1 _ I1 q) fun ws s2 ⟨zs, H2, I2, rz, hw, q2⟩ => ⟨I2.kIn, ?_⟩
  rw [hks]
  exact run_fnKw (us := [.ref a]) (vs := [.ref a]) G hr hb (hx σ) I2 (.cons rfl .nil) rz rfl hw q2
def mMethKw (C : Addr) (m : Str) (sp : DSp) (ms : List Bool) (nk : Nat) (is : List Nat) (EX : DX) (mo : ME) (mk : MA) : ME := fun ρ P => mo ρ fun r0 ρ1 => (∃ fs, r0.get ρ1 = some (.ins C fs) ∧ fs.lookup m = none) ∧ mk ρ1 fun qs ρ2 => qs.length = nk ∧ ∃ as ρ3 ix, hand ms ρ2 (pick is (r0 :: qs)) = some (as, ρ3, ix) ∧
  sp as (dkOf ρ3 ix EX (fun d ρ4 => P (.val d) ρ4) fun d ρ4 => P (.val d) ρ4)
open PySem.Spec PyProof.Rows in
theorem de_methKw {pl : Sem Bool} (he : DE X E o mo) (c : Cls X.K C) (hm : Meth X.K C m f) (G : FnG X.prog X.w X.K X.mg X.base CX k f fd ps (liftSp sp)) (hr : RoomG k X.A) (hb : KB X.K fd ps ks 1 is) (lk : Lk E EX W) (hx : PassW CX X W) (ms : List Bool) (hkw : DKw X E kws mk)
    (ht : eval (.Call (.Attribute o m apos) [] kws pos) X.env = (do
      let ov ← eval o X.env
      standAt apos.atName
      let (f, first) ← holding [ov] (getMethod ov m pl)
      callWith pos f first (backTo pos (starEach [] X.env)) (backToKw pos (keywordEach kws X.env))) := by rfl)
    (hall : (backToKw pos (keywordEach kws X.env)).all (·.1.isSome) = true := by rfl) (hks : (backToKw pos (keywordEach kws X.env)).filterMap (·.1) = ks := by rfl)
    (hpl : ((backTo pos (starEach [] X.env)).any (·.1) || (backToKw pos (keywordEach kws X.env)).any (·.1.isNone)) = false := by rfl) :
    DE X E (.Call (.Attribute o m apos) [] kws pos) (mMethKw C m sp ms ks.length is EX mo mk) := PE.to (pe_methKw he c hm G hr hb hx hkw ht hall hks hpl) fun σ H Q ⟨F, ρ, P, S, hm, kk⟩ =>
  ⟨F, ρ, _, S, hm, fun r0 ρ1 v H1 F1 ⟨⟨fs, g, gl⟩, h2⟩ S1 l1 d1 => by
    obtain ⟨a, dx, vs, e, hH, rr⟩ := (S1.view d1 g).ins S1.sits
    subst e
    refine ⟨a, dx, vs, rfl, hH, rr.lookup_none gl, F1, ρ1, _, S1, h2, fun qs ρ2 zs H2 F2 ⟨hk, as, ρ3, ix, hh, hs⟩ S2 l2 d2 => ⟨d2.len.trans hk, ?_⟩⟩
    obtain ⟨F3, l3, S3, a3⟩ := SR.handed S2 (VDens.pick (vs := .ref a :: zs) (rs := r0 :: qs) ⟨d1.mono l2, d2⟩ is) hh
    have := S3.ask (W := W) (dvs := []) (df := []) (sp := sp) (Q := Q) a3 .nil lk (by simpa using hs) (fun d ρ4 v H' F' hp S' l' r => kk (.val d) _ _ H' F' hp S' (((l1.trans l2).trans l3).trans l') r) fun d ρ4 p H' F' hp S' l' N => by
      obtain ⟨F4, l4, S4, r4⟩ := S'.freeze N
      exact kk (.val d) _ _ H' F4 hp S4 ((((l1.trans l2).trans l3).trans l').trans l4) r4
    simpa using this⟩
end
end DL
/-! DT: sets of texts: made of a list, handed to sorted. -/
namespace DT
open PySem PySem.Spec PyProof.Rows L2
abbrev kS (P : Program) (w : World) := PySem.strKind P w
def txt (e : Int × Value) : Str := match e.2 with | .str x _ => x | _ => Str.empty
def IsTxt (w : World) (e : Int × Value) : Prop := ∃ x t, e = (hashStr w x, Value.str x t)
/-- the set at a has the texts L, each once -/
def TSet (w : World) (h : Heap) (a : Addr) (L : List Str) : Prop := ∃ o es ep t, (h.get? a = some o ∧ o.ExactSet ∧ o.data = .set es ep t) ∧ ((∀ e ∈ es.toList, IsTxt w e) ∧ (es.toList.map txt).Perm L ∧ L.Nodup) ∧
  (t.fits es.size = true ∧ Ris t.place.toList) ∧ L.length < scanBound ∧ (w.params.followText "set-order" = true ∨ t.led = true)
section
variable {P : Program} {w : World} {A : Around} {E : Value → Shared → Prop} {s : Shared} {a : Addr} {L : List Str}
theorem size_of {es : Array (Int × Value)} (p : (es.toList.map txt).Perm L) : es.size = L.length := by simpa using p.length_eq
theorem elems_of {l : List (Int × Value)} (g : ∀ e ∈ l, IsTxt w e) : ElemsOf (kS P w) l := fun e he => by
  obtain ⟨x, t, rfl⟩ := g e he
  exact ⟨⟨x, strKind_is P w x t, rfl⟩, rfl⟩
theorem is_txt {e : Int × Value} (g : IsTxt w e) (x : Str) : (kS P w).is x e.2 = decide (txt e = x) := by
  obtain ⟨y, t, rfl⟩ := g
  show Value.isStrOf x (.str y t) = decide (y = x)
  unfold Value.isStrOf
  by_cases h : y = x
  · subst h; simp
  · simp [h]
/-- behind a text's storing: what is left to do -/
theorem tail {g : Bool → Sem Unit} (hg : ∀ (b : Bool) (s₁ : Shared) (R : Unit → Shared → Prop), R () s₁ → wpAny (model P w) A (g b) R E s₁) {o : Obj} {es es1 : Array (Int × Value)} {ep : Nat} {t t2 : SetTable}
    (at_ : s.heap.get? a = some o ∧ o.ExactSet ∧ o.data = .set es ep t) (good : (∀ e ∈ es1.toList, IsTxt w e) ∧ (es1.toList.map txt).Perm L ∧ L.Nodup) (tab : t2.fits es1.size = true ∧ Ris t2.place.toList) (few : L.length < scanBound)
    (led : w.params.followText "set-order" = true ∨ t2.led = true) {fresh : Bool} {R : Option Bool → Shared → Prop} (fin : ∀ h', Heap.SameBut a s.heap h' → TSet w h' a L → R (some true) { s with heap := h' }) :
    wpAny (model P w) A (do
      storeSet a es1 t2
      if (!fresh && t2.tooFull) = true then do
        g (relayAll t2 es1 (SetTable.grown es1.size)).2.2
        storeSet a (relayAll t2 es1 (SetTable.grown es1.size)).1 (relayAll t2 es1 (SetTable.grown es1.size)).2.1
        pure (some true)
      else pure (some true)) R E s := by
  obtain ⟨ho, hex, hd⟩ := at_
  obtain ⟨g1, pm1, nd⟩ := good
  have n1 := size_of pm1
  have b1 : es1.size < scanBound := by rw [n1]; exact few
  refine wpAny_bind (wpAny_storeSet_of ho hd ?_ (fits_of_scanBound b1))
  have ho1 := store_at (es' := es1) (t' := t2) ho hd
  have same := Heap.SameBut.update s.heap a (Obj.putSet es1 t2)
  by_cases c : (!fresh && t2.tooFull) = true
  · rw [if_pos c]
    have q := relayAll_perm t2 es1 (SetTable.grown es1.size)
    have f3 := relayAll_fits t2 es1 (SetTable.grown es1.size)
    have r3 := relayAll_ris t2 es1 (SetTable.grown es1.size)
    have l3 := relayAll_led t2 es1 (SetTable.grown es1.size)
    rcases e : relayAll t2 es1 (SetTable.grown es1.size) with ⟨es2, t3, gave⟩
    rw [e] at q f3 r3 l3
    have n2 : es2.size = es1.size := by simpa using q.length_eq
    refine wpAny_bind (hg gave _ _ (wpAny_bind (wpAny_storeSet_of ho1 rfl (wpAny_pure (fin _ (same.trans (Heap.SameBut.update _ a _)) ?_)) (fits_of_scanBound (by show es2.size < scanBound; omega)))))
    exact ⟨_, es2, _, t3, ⟨store_at ho1 rfl, hex, rfl⟩, ⟨fun e he => g1 e (q.mem_iff.mp he), (q.map txt).trans pm1, nd⟩, ⟨f3, r3⟩, few, led.imp _root_.id fun z => l3.trans z⟩
  · rw [if_neg c]
    exact wpAny_pure (fin _ same ⟨_, es1, _, t2, ⟨ho1, hex, rfl⟩, ⟨g1, pm1, nd⟩, tab, few, led⟩)
theorem gone (b : Bool) {s₁ : Shared} {R : Unit → Shared → Prop} (h : R () s₁) : wpAny (model P w) A (match b with | true => rule "set.scan.the-table-gave-way" | false => pure ()) R E s₁ := by
  cases b
  · exact wpAny_pure h
  · exact wpAny_rule h
/-- a text is put in -/
theorem put {x : Str} {tk : Tok} {Q : Bool → Shared → Prop} (T : TSet w s.heap a L) (room : L.length + 1 < scanBound)
    (hQ : ∀ h' L', Heap.SameBut a s.heap h' → TSet w h' a L' → L' = (if x ∈ L then L else x :: L) → Q (decide (x ∉ L)) { s with heap := h' }) : wpAny (model P w) A (setAddHashed a (.str x tk) ((kS P w).hash x)) Q E s := by
  obtain ⟨o, es, ep, t, ⟨ho, hex, hd⟩, ⟨g, pm, nd⟩, ⟨hf, hr⟩, few, led⟩ := T
  have nn := size_of pm
  have hb : es.size < scanBound := by rw [nn]; exact few
  have hel : ElemsOf (kS P w) es.toList := elems_of g
  have sc : (Value.str x tk).scannable = true := rfl
  have key := strKind_is P w x tk
  have mem : x ∈ L ↔ ∃ e ∈ es.toList, (kS P w).is x e.2 = true := by
    rw [← pm.mem_iff, List.mem_map]
    constructor
    · rintro ⟨e, he, q⟩
      exact ⟨e, he, by rw [is_txt (g e he), q]; exact decide_eq_true rfl⟩
    · rintro ⟨e, he, q⟩
      rw [is_txt (g e he)] at q
      exact ⟨e, he, of_decide_eq_true q⟩
  unfold setAddHashed setAddHashedIn
  refine wpAny_holding (wpAny_bind (wpAny_setState_of ho hd hf ?_))
  dsimp only
  rw [byScan_of sc hb hel, if_pos rfl]
  unfold setAddByScan
  refine wpAny_bind (wpAny_bind (wpAny_rule (wpAny_bind (wpAny_setScan_of key ho hd hf hel ?_))))
  cases hfi : List.findIdx? (fun e => (kS P w).is x e.2) es.toList
  case none =>
    have hx : x ∉ L := fun z => by
      obtain ⟨e, he, q⟩ := mem.mp z
      have := List.findIdx?_eq_none_iff.mp hfi e he
      rw [q] at this
      cases this
    have q0 := layNew_perm t es ((kS P w).hash x) (.str x tk)
    have f1 := layNew_fits t es ((kS P w).hash x) (.str x tk)
    have r1 := layNew_ris t es ((kS P w).hash x) (.str x tk) hr
    have l1 := layNew_led t es ((kS P w).hash x) (.str x tk)
    dsimp only
    rcases e : layNew t es ((kS P w).hash x) (.str x tk) with ⟨es1, t1, was, gave⟩
    rw [e] at q0 f1 r1 l1
    dsimp only at q0 f1 r1 l1 ⊢
    rw [Array.toList_push] at q0
    have q1 := q0.trans (List.perm_append_singleton _ _)
    have good : (∀ e ∈ es1.toList, IsTxt w e) ∧ (es1.toList.map txt).Perm (x :: L) ∧ (x :: L).Nodup := ⟨fun e he => by
      rcases List.mem_cons.mp (q1.mem_iff.mp he) with z | z
      · exact ⟨x, tk, z⟩
      · exact g e z, (q1.map txt).trans (List.Perm.cons x pm), List.nodup_cons.mpr ⟨hx, nd⟩⟩
    have led1 : w.params.followText "set-order" = true ∨ t1.led = true := led.imp _root_.id fun z => l1.trans z
    have fin : ∀ h', Heap.SameBut a s.heap h' → TSet w h' a (x :: L) → Q true { s with heap := h' } := fun h' sb T' => by
      have := hQ h' _ sb T' (by rw [if_neg hx])
      rwa [decide_eq_true hx] at this
    refine wpAny_bind (gone gave ?_)
    have hg : ∀ (b : Bool) (s₁ : Shared) (R : Unit → Shared → Prop), R () s₁ → wpAny (model P w) A (match b with | true => rule "set.scan.the-table-gave-way" | false => pure ()) R E s₁ := fun b _ _ z => gone b z
    split
    · refine wpAny_bind ?_
      rw [hashByValue_scannable 8 sc]
      refine wpAny_pure (tail hg ⟨ho, hex, hd⟩ good ?_ room ?_ fun h' sb T' => wpAny_pure (fin h' sb T'))
      · split
        · exact ⟨f1, r1⟩
        · exact ⟨SetTable.fits_plain_off f1, r1⟩
      · split <;> exact led1
    · refine wpAny_bind (wpAny_pure ?_)
      rw [if_pos rfl]
      exact tail hg ⟨ho, hex, hd⟩ good ⟨f1, r1⟩ room led1 fun h' sb T' => wpAny_pure (fin h' sb T')
  case some j =>
    obtain ⟨hj, pj, _⟩ := List.findIdx?_eq_some_iff_getElem.mp hfi
    have hx : x ∈ L := mem.mpr ⟨es.toList[j], List.getElem_mem hj, pj⟩
    have := hQ s.heap L (Heap.SameBut.refl a s.heap) ⟨o, es, ep, t, ⟨ho, hex, hd⟩, ⟨g, pm, nd⟩, ⟨hf, hr⟩, few, led⟩ (by rw [if_pos hx])
    rw [decide_eq_false (by simpa using hx)] at this
    exact wpAny_pure (wpAny_pure this)
end
def add1 (L : List Str) (x : Str) : List Str := if x ∈ L then L else x :: L
def met (xs : List Str) : List Str := xs.foldl add1 []
theorem met_snoc (xs : List Str) (x : Str) : met (xs ++ [x]) = add1 (met xs) x := by unfold met; rw [List.foldl_append]; rfl
theorem add1_len (L : List Str) (x : Str) : (add1 L x).length ≤ L.length + 1 := by unfold add1; split <;> simp
theorem foldl_len : ∀ (xs L : List Str), (xs.foldl add1 L).length ≤ L.length + xs.length
  | [], L => by simp
  | x :: xs, L => by
    have a := foldl_len xs (add1 L x)
    have b := add1_len L x
    simp only [List.foldl_cons, List.length_cons]
    omega
theorem met_len (xs : List Str) : (met xs).length ≤ xs.length := by simpa [met] using foldl_len xs []
theorem foldl_mem (y : Str) : ∀ (xs L : List Str), y ∈ xs.foldl add1 L ↔ y ∈ L ∨ y ∈ xs
  | [], L => by simp
  | x :: xs, L => by
    rw [List.foldl_cons, foldl_mem y xs, List.mem_cons]
    unfold add1
    split
    · rename_i h
      constructor
      · rintro (z | z) <;> simp [z]
      · rintro (z | z | z)
        · exact .inl z
        · exact .inl (z ▸ h)
        · exact .inr z
    · rw [List.mem_cons]
      constructor
      · rintro ((z | z) | z) <;> simp [z]
      · rintro (z | z | z) <;> simp [z]
theorem mem_met {y : Str} {xs : List Str} : y ∈ met xs ↔ y ∈ xs := by simpa [met] using foldl_mem y xs []
theorem foldl_nodup : ∀ (xs L : List Str), L.Nodup → (xs.foldl add1 L).Nodup
  | [], L, h => h
  | x :: xs, L, h => by
    rw [List.foldl_cons]
    refine foldl_nodup xs _ ?_
    unfold add1
    split
    · exact h
    · exact List.nodup_cons.mpr ⟨by assumption, h⟩
theorem met_nodup (xs : List Str) : (met xs).Nodup := foldl_nodup xs [] List.nodup_nil
theorem TSet.keep {w : World} {h h' : Heap} {a : Addr} {L : List Str} (T : TSet w h a L) (k : ∀ o, h.get? a = some o → h'.get? a = some o) : TSet w h' a L := by
  obtain ⟨o, es, ep, t, ⟨x, y⟩, r⟩ := T
  exact ⟨o, es, ep, t, ⟨k o x, y⟩, r⟩
theorem fresh {h : Heap} (w : World) : TSet w (h.push { cls := .type "set", dict := none, data := .set #[] 0 (.fresh 0 0 (!w.params.followText "set-order")) }) h.objs.size [] :=
  ⟨_, #[], 0, _, ⟨Heap.get?_push_size _ rfl, ⟨rfl, rfl, rfl⟩, rfl⟩, ⟨fun e he => by simp at he, by simp, List.nodup_nil⟩, ⟨rfl, List.Pairwise.nil⟩, by decide, by
    show _ ∨ (!w.params.followText "set-order") = true
    cases w.params.followText "set-order" <;> simp⟩
section
variable {P : Program} {w : World} {A : Around} {R : Result → Shared → Prop} {I : Addr} {fp wr : List Addr} {G : Array GenState → Array GenState → Prop} {n : Nat} {Pv : Nat → Value → Prop} {St : Nat → Shared → Prop}
theorem take_more (xs : List Str) (i : Nat) (h : i < xs.length) : xs.take (i + 1) = xs.take i ++ [xs.getD i Str.empty] := by
  rw [List.take_succ, List.getElem?_eq_getElem h, List.getD_eq_getElem?_getD, List.getElem?_eq_getElem h]
  rfl
theorem loop (W : WalksS P w A.in1 I fp wr G n Pv St) {S : Addr} (out : S ∉ fp) {xs : List Str} (hn : xs.length = n) (few : n < scanBound) (val : ∀ i v, Pv i v → ∃ t, v = .str (xs.getD i Str.empty) t) :
    ∀ (k i : Nat) (s : Shared), n - i = k → i ≤ n → St i s → TSet w s.heap S (met (xs.take i)) → (∀ s', Moved (S :: wr) G s s' → TSet w s'.heap S (met xs) → R (.ok (.ret .none)) s') →
      codeAny (model P w) A (.builtin "set.update.loop" ⟨[.ref S, .ref I], []⟩) R s := by
  have nw : S ∉ wr := fun h => out (W.sub _ h)
  have up : ∀ b ∈ wr, b ∈ S :: wr := fun b hb => List.mem_cons_of_mem _ hb
  intro k
  induction k with
  | zero =>
    intro i s hk hi st T go
    obtain rfl : i = n := by omega
    rw [List.take_of_length_le (Nat.le_of_eq hn)] at T
    refine codeAny_builtin PyProof.Rows.F.entry_set_update_loop (by
      rw [Around.under_plainId PyProof.Rows.F.plain_set_update_loop _]
      show wpAny _ A.in1 (pyNext (.ref I) >>= _) _ _ s
      exact wpAny_bind (W.done s _ _ st fun s' hm => wpAny_pure (go s' (hm.mono up) (T.keep fun o e => hm.heap S _ nw e))))
  | succ k ih =>
    intro i s hk hi st T go
    have lt : i < n := by omega
    refine codeAny_builtin PyProof.Rows.F.entry_set_update_loop (by
      rw [Around.under_plainId PyProof.Rows.F.plain_set_update_loop _]
      show wpAny _ A.in1 (pyNext (.ref I) >>= _) _ _ s
      refine wpAny_bind (W.item i s _ _ lt st fun v s' hP st' hm => ?_)
      obtain ⟨t, rfl⟩ := val i v hP
      have T' := T.keep fun o e => hm.heap S _ nw e
      show wpAny _ A.in1 (holding [Value.str (xs.getD i Str.empty) t] (setAdd S (.str (xs.getD i Str.empty) t)) >>= _) _ _ s'
      refine wpAny_bind (wpAny_holding ?_)
      unfold setAdd
      refine wpAny_holding (wpAny_bind ((kS P w).pyHash (k := xs.getD i Str.empty) (strKind_is _ _ _ _) ?_))
      have room : (met (xs.take i)).length + 1 < scanBound ∨ xs.getD i Str.empty ∈ met (xs.take i) := by
        have := met_len (xs.take i)
        rw [List.length_take] at this
        omega
      refine put (s := { s' with toks := s'.toks + 1 }) T' (by
        have := met_len (xs.take i)
        rw [List.length_take] at this
        omega) fun h' L' sb T2 e => ?_
      have e2 : L' = met (xs.take (i + 1)) := by rw [take_more xs i (by omega), met_snoc]; exact e
      rw [e2] at T2
      refine wpAny_pure ⟨plainId_quiet PyProof.Rows.F.plain_set_update_loop _, ih (i + 1) _ (by omega) lt (W.frame _ s' _ _ st' (Nat.le_succ _) fun b hb o e => ?_) T2 fun s2 hm2 T3 => ?_⟩
      · rw [sb.2 b (fun z : b = S => out (z ▸ hb))]; exact e
      · refine go s2 (Moved.trans W.gtrans ((hm.mono up).then_heap (Nat.le_succ _) fun b o hb e => ?_) hm2) T3
        rw [sb.2 b (fun z : b = S => hb (z ▸ List.mem_cons_self))]; exact e)
end
section
variable {P : Program} {w : World} {A : Around} {E : Value → Shared → Prop} {s : Shared}
/-- an empty set -/
abbrev nil (w : World) : Obj := { cls := .type "set", dict := none, data := .set #[] 0 (.fresh 0 0 (!w.params.followText "set-order")) }
theorem txt_at : ∀ {us : List Value} {xs : List Str}, StrsAre us xs → ∀ (i : Nat) (v : Value), us[i]? = some v → ∃ t, v = .str (xs.getD i Str.empty) t
  | _, _, .nil, i, v, h => by simp at h
  | _, _, .cons x t r, 0, v, h => by
    simp at h
    exact ⟨t, h.symm⟩
  | _, _, .cons x t r, i + 1, v, h => by simpa using txt_at r i v (by simpa using h)
/-- the new set takes the list's items in -/
theorem init {l : Addr} {items : Array Value} {xs : List Str} (hh : A.handled = none) (hl : s.heap.IsList l items) (hi : StrsAre items.toList xs) (few : xs.length < scanBound) {Q : Value → Shared → Prop}
    (h : ∀ (h' : Heap) (tk : Nat), TSet w h' s.heap.objs.size (met xs) → (∀ b o, b < s.heap.objs.size → s.heap.get? b = some o → h'.get? b = some o) → Q .none { s with heap := h', toks := tk }) :
    codeAny (model P w) A (.call (.builtin "set.__init__") ⟨[.ref s.heap.objs.size, .ref l], []⟩) (wants Q E) { s with heap := s.heap.push (nil w) } := by
  have there : (s.heap.push (nil w)).get? s.heap.objs.size = some (nil w) := Heap.get?_push_size _ rfl
  have ty : Shared.TypeIs { s with heap := s.heap.push (nil w) } (.ref s.heap.objs.size) "set" := ⟨_, there, rfl⟩
  refine codeAny_call_builtin F.called_set.init.plain F.entry_set_init (check_set_init_1 ty ?_)
  obtain ⟨⟨c1, c2, c3, c4⟩, at_, e1, m, e2⟩ := hl
  simp only at e1 e2
  subst e1 e2
  have at2 : (s.heap.push (nil w)).get? l = some { cls := .type "list", dict := c2, data := .seq items m, slots := c4 } := Heap.get?_push_of_some _ at_
  have q1 := F.sub_list_set
  have q2 := F.sub_list_frozenset
  have q3 : (Value.type "list" == Value.type "dict") = false := by decide
  have ls : (s.heap.push (nil w)).IsList l items := ⟨_, at2, rfl, m, rfl⟩
  unfold Builtin.«set.__init__» noKeywords Builtin.Frozenset.updateFrom
  generalize hp : pyIter = it
  wp_walk
  subst hp
  refine wpAny_pyIter_list ls (wpAny_bind (wpAny_runValue ?_))
  have lt : l < s.heap.objs.size := Heap.lt_size at_
  have sz : (s.heap.push (nil w)).objs.size = s.heap.objs.size + 1 := Heap.size_push ..
  have ne : l ≠ (s.heap.push (nil w)).objs.size := by rw [sz]; exact Nat.ne_of_lt (Nat.lt_succ_of_lt lt)
  have no : s.heap.objs.size ∉ [(s.heap.push (nil w)).objs.size, l] := by
    rw [sz]
    simp only [List.mem_cons, List.not_mem_nil, or_false, not_or]
    exact ⟨Nat.ne_of_lt (Nat.lt_succ_self _), Nat.ne_of_gt lt⟩
  have len : xs.length = items.size := by rw [← StrsAre.len_eq hi, Array.length_toList]
  refine loop ((Walks.list (by simp [hh]) _ l ne items).toS) no len (by omega) (fun i v hv => txt_at hi i v (by rw [Array.getElem?_toList]; exact hv)) (items.size - 0) 0 _ rfl (Nat.zero_le _)
    ⟨⟨_, Heap.get?_push_size _ rfl, rfl, rfl⟩, ls.push _⟩ ((fresh w).keep fun o e => Heap.get?_push_of_some _ e) fun s2 hm T => ?_
  obtain ⟨h2, g2, d2, t2, o2⟩ := s2
  obtain rfl : g2 = s.gens := hm.gens
  obtain rfl : d2 = s.drawn := hm.drawn
  obtain rfl : o2 = s.os := hm.os
  show wpAny _ _ _ _ _ _
  refine wpAny_pure (wpAny_pure (h h2 t2 T fun b o lb e => ?_))
  refine hm.heap b o ?_ (Heap.get?_push_of_some _ (Heap.get?_push_of_some _ e))
  rw [sz]
  simp only [List.mem_cons, List.not_mem_nil, or_false, not_or]
  exact ⟨Nat.ne_of_lt lb, Nat.ne_of_lt (Nat.lt_succ_of_lt lb)⟩
/-- set(a list of texts) -/
theorem call_set {l : Addr} {items : Array Value} {xs : List Str} {Q : Value → Shared → Prop} (hh : A.handled = none) (hl : s.heap.IsList l items) (hi : StrsAre items.toList xs) (few : xs.length < scanBound)
    (h : ∀ (h' : Heap) (tk : Nat), TSet w h' s.heap.objs.size (met xs) → (∀ b o, b < s.heap.objs.size → s.heap.get? b = some o → h'.get? b = some o) → Q (.ref s.heap.objs.size) { s with heap := h', toks := tk }) :
    wpAny (model P w) A (call (.type "set") [.ref l]) Q E s := by
  obtain ⟨c, tl, m0⟩ := F.called_set.mro
  have m1 := F.called_set.made
  have m2 := F.called_set.sub
  refine wpAny_call (codeAny_of_tree ?_)
  show wpAny _ _ (callAny (.type "set") _) _ _ _
  refine wpAny_pure ⟨Code.quiet_builtin _ (by decide +kernel), codeAny_builtin F.entry_type_call ?_⟩
  rw [Around.under_plain (weight_type_call_type "set" [.ref l] []) rfl]
  have m3 := F.called_set.notType
  have m4 := F.called_set.canCreate
  have m5 := F.typeCall_set_1 (.ref l)
  repeat (any_goals (first | assumption | wp_step))
  refine codeAny_mono (code_set_led1 (.ref l) (E := E) (Q₁ := fun u s1 => u = .ref s.heap.objs.size ∧ s1 = { s with heap := s.heap.push (nil w) }) ⟨rfl, rfl⟩) fun r s1 q => ?_
  match r, q with
  | .error e, q => exact q
  | .ok .next, q => exact q.elim
  | .ok .brk, q => exact q.elim
  | .ok .cont, q => exact q.elim
  | .ok (.ret u), q =>
    obtain ⟨rfl, rfl⟩ := q
    have ty : Shared.TypeIs { s with heap := s.heap.push (nil w) } (.ref s.heap.objs.size) "set" := ⟨_, Heap.get?_push_size _ rfl, rfl⟩
    have m6 := F.called_set.init.lookup
    have m7 := F.called_set.init.bind (.ref s.heap.objs.size)
    repeat (any_goals (first | assumption | wp_step))
    refine codeAny_mono (init (E := E) (Q := fun r s2 => r = .none ∧ Q (.ref s.heap.objs.size) s2) (by simpa using hh) hl hi few fun h' tk T k => ⟨rfl, h h' tk T k⟩) fun r2 s2 q2 => ?_
    match r2, q2 with
    | .error e, q2 => exact q2
    | .ok .next, q2 => exact q2.elim
    | .ok .brk, q2 => exact q2.elim
    | .ok .cont, q2 => exact q2.elim
    | .ok (.ret u2), q2 =>
      obtain ⟨rfl, q2⟩ := q2
      repeat (any_goals (first | assumption | wp_step))
/-- sorted(the set) -/
theorem sorted_set {a : Addr} {L : List Str} {Q : Value → Shared → Prop} (T : TSet w s.heap a L) (hh : A.handled = none)
    (h : ∀ s' p (out : Array Value) (c : Nat) (ys : List Str), (∀ b o, s.heap.get? b = some o → s'.heap.get? b = some o) → s'.gens = s.gens → s'.os = s.os → s.heap.objs.size ≤ p → s'.heap.get? p = some (seqObj "list" out c) →
      StrsAre out.toList ys → ys.Perm L → sortedS ys = true → Q (.ref p) s') : wpAny (model P w) A (call (.builtin "sorted") [.ref a]) Q E s := by
  obtain ⟨o, es, ep, t, ⟨ho, hex, hd⟩, ⟨g, pm, nd⟩, ⟨hf, hr⟩, few, led⟩ := T
  have nn := size_of pm
  refine Calls.call_function_entry kind_sorted plain_sorted entry_sorted (args_sorted1 _) ?_
  unfold Builtin.«sorted»
  refine wpAny_bind (m := checkCount "sorted" 1 1 _) (wpAny_pure (wpAny_bind (collect_set (A := A.in1) hh ⟨o, ho, hex.1, hd⟩ hf (by rw [nn]; exact few) hr led fun s1 vs k1 z1 g1 o1 p1 => ?_)))
  have vl : vs.length = L.length := by rw [p1.length_eq, List.length_map, Array.length_toList]; exact nn
  have all : ∀ v ∈ vs, ∃ x t, v = Value.str x t := fun v hv => by
    obtain ⟨e, he, rfl⟩ := List.mem_map.mp (p1.mem_iff.mp hv)
    obtain ⟨x, t, rfl⟩ := g e he
    exact ⟨x, t, rfl⟩
  have hS := strsAre_map vs all
  have pL : (vs.map strOf).Perm L := by
    refine ((p1.map strOf).trans ?_).trans pm
    rw [List.map_map]
    refine List.Perm.of_eq (List.map_congr_left fun e he => ?_)
    obtain ⟨x, t, rfl⟩ := g e he
    rfl
  have small : vs.length ≤ sizeLine := by
    rw [vl, sizeLine_eq]
    have : scanBound ≤ 16777216 := by decide
    omega
  refine wpAny_bind (wpAny_newList ?_ small)
  have at_ : (s1.heap.push (seqObj "list" vs.toArray 0)).get? s1.heap.objs.size = some (seqObj "list" vs.toArray 0) := Heap.get?_push_size _ rfl
  refine wpAny_bind (wpAny_holding (wpAny_call_entry slot_list_sort ⟨_, at_, rfl⟩ entry_list_sort (list_sort_treeKAny strKind_oneLt at_ hS.keysOf (fun v1 v2 rest e => keyKind_strs (by rw [← e]; exact hS)) small fun st hp hs => ⟨_, rfl, ?_⟩) (args_list_sort _)))
  obtain ⟨ys, y1, y2, y3⟩ := sorted_out_str hS hp hs
  obtain ⟨c, hc⟩ := sortedHeap_at (vs := vs) (out := (arrOf st).map (·.2)) at_
  refine wpAny_pure ⟨_, rfl, h _ s1.heap.objs.size _ c ys (fun b u e => ?_) g1 o1 z1 hc y1 (y2.trans pL) y3⟩
  have q := k1 b u e
  have lt := Heap.lt_size q
  refine (sortedHeap_old (Nat.ne_of_lt lt) ?_).trans (Heap.get?_push_of_some _ q)
  rw [size_push']
  exact Nat.lt_succ_of_lt lt
end
end DT
/-! DL20: texts in order, sorted(set(..)), dict displays. -/
namespace DL
open PySem L2
/-! ### the order of texts -/
def ltS (a b : Str) : Bool := decide (a.cps.toList < b.cps.toList)
def srtS (xs : List Str) : List Str := xs.mergeSort fun a b => !ltS b a
theorem ltS_eq {a b : Str} : ltS a b = true ↔ a.cps.toList < b.cps.toList := by simp [ltS]
theorem leS_total (a b : Str) : (!ltS b a || !ltS a b) = true := by
  by_cases h : ltS b a = true
  · have h' := ltS_eq.mp h
    have : ¬ a.cps.toList < b.cps.toList := fun z => absurd z (List.lt_asymm h')
    have : ltS a b = false := by simp [ltS, this]
    simp [this]
  · simp [h]
theorem leS_trans (a b c : Str) (h1 : (!ltS b a) = true) (h2 : (!ltS c b) = true) : (!ltS c a) = true := by
  simp only [ltS, Bool.not_eq_true', decide_eq_false_iff_not] at *
  exact List.le_trans (α := Nat) h1 h2
theorem leS_anti {a b : Str} (h1 : (!ltS b a) = true) (h2 : (!ltS a b) = true) : a = b := by
  simp only [ltS, Bool.not_eq_true', decide_eq_false_iff_not] at *
  have : a.cps.toList = b.cps.toList := List.le_antisymm (α := Nat) h1 h2
  obtain ⟨⟨x⟩⟩ := a
  obtain ⟨⟨y⟩⟩ := b
  simp only at this
  subst this
  rfl
theorem srtS_perm (xs : List Str) : (srtS xs).Perm xs := List.mergeSort_perm ..
theorem srtS_sorted (xs : List Str) : (srtS xs).Pairwise fun a b => (!ltS b a) = true := List.pairwise_mergeSort leS_trans leS_total xs
theorem eq_of_sorted : ∀ {xs ys : List Str}, xs.Perm ys → xs.Pairwise (fun a b => (!ltS b a) = true) → ys.Pairwise (fun a b => (!ltS b a) = true) → xs = ys
  | [], ys, p, _, _ => by simpa using p.symm
  | x :: xs, [], p, _, _ => by simpa using p
  | x :: xs, y :: ys, p, h1, h2 => by
    obtain ⟨a1, a2⟩ := List.pairwise_cons.mp h1
    obtain ⟨b1, b2⟩ := List.pairwise_cons.mp h2
    have e : x = y := by
      have mx : x ∈ y :: ys := p.mem_iff.mp List.mem_cons_self
      have my : y ∈ x :: xs := p.mem_iff.mpr List.mem_cons_self
      rcases List.mem_cons.mp mx with z | z
      · exact z
      · rcases List.mem_cons.mp my with w | w
        · exact w.symm
        · exact leS_anti (a1 y w) (b1 x z)
    subst e
    rw [eq_of_sorted ((List.perm_cons x).mp p) a2 b2]
theorem rising_pair : ∀ (p : Str) (l : List Str), PyProof.Rows.risingS p l = true → (p :: l).Pairwise fun a b => (!ltS b a) = true
  | p, [], _ => by simp
  | p, x :: r, h => by
    unfold PyProof.Rows.risingS at h
    rw [Bool.and_eq_true, PyProof.Rows.ltCps_eq] at h
    have t := rising_pair x r h.2
    obtain ⟨t1, t2⟩ := List.pairwise_cons.mp t
    have hx : (!ltS x p) = true := h.1
    refine List.pairwise_cons.mpr ⟨fun y hy => ?_, t⟩
    rcases List.mem_cons.mp hy with rfl | hy
    · exact hx
    · exact leS_trans p x y hx (t1 y hy)
theorem sortedS_is {xs ys : List Str} (p : ys.Perm xs) (h : PyProof.Rows.sortedS ys = true) : ys = srtS xs := by
  refine eq_of_sorted (p.trans (srtS_perm xs).symm) ?_ (srtS_sorted xs)
  cases ys with
  | nil => exact List.Pairwise.nil
  | cons y r => exact rising_pair y r h
/-! ### sets of texts as the hand layer's objects -/
def TSetO (w : World) (a : Addr) (L : List Str) : HO := .ext fun h => DT.TSet w h a L
section
variable {X : Cx}
theorem tset_new {w : World} {P : Program} {H : Hp} {h : Heap} {a : Addr} {L : List Str} (R : DT.TSet w h a L) : ObjOk P w H h a (TSetO w a L) := by
  have ⟨o, _, _, _, ⟨ho, _⟩, _⟩ := R
  exact ⟨R, ⟨o, ho⟩, fun h1 h2 p k => DT.TSet.keep p k⟩
def rSetT (K : PySem.W.Frag) (w : World) : List V → Hp → VK → Prop := fun xs H Q => ∃ (l : Addr) (ys : List Str), xs = [V.ref l] ∧ SqL K H l (ys.map V.str) ∧ ys.length < scanBound ∧ ∀ p, H p = none → Q (.ref p) (upd H p (TSetO w p (DT.met ys)))
theorem cr_setT (hc : X.calm = true) : CallR X (.type "set") (rSetT X.K X.w) := by
  intro pins s σ H xs us Q I r h
  obtain ⟨l, ys, rfl, hl, few, q⟩ := h
  obtain ⟨its, rv, pl, _⟩ := I.list hl
  rw [Vals.ref1 r]
  refine DT.call_set (I.ok.hd hc) pl.isList (by rw [List.toList_toArray]; exact rv.strs) few fun h' tk T k => ?_
  exact ⟨.ref _, upd H s.heap.objs.size (TSetO X.w s.heap.objs.size (DT.met ys)), I.laid (t' := tk) (fun b u e => k b u (Heap.lt_size e) e) (Nat.le_refl _) (tset_new T), rfl, q _ (I.hok.fresh (Nat.le_refl _))⟩
def rSortTS (w : World) : List V → Hp → VK → Prop := fun xs H Q => ∃ (a : Addr) (L : List Str), xs = [V.ref a] ∧ H a = some (TSetO w a L) ∧ L.length < scanBound ∧ ∀ p, H p = none → Q (.ref p) (upd H p (.lst ((srtS L).map V.str)))
theorem cr_sortTS (hc : X.calm = true) : CallR X (.builtin "sorted") (rSortTS X.w) := by
  intro pins s σ H xs us Q I r h
  obtain ⟨a, L, rfl, ha, few, q⟩ := h
  have T : DT.TSet X.w s.heap a L := (I.hok a _ ha).1
  rw [Vals.ref1 r]
  refine DT.sorted_set T (I.ok.hd hc) fun s' p out c ys k g o hp hg hi pm so => ?_
  have e := sortedS_is pm so
  subst e
  have hlen : ((srtS L).map V.str).length ≤ sizeLine := by
    rw [List.length_map, (srtS_perm L).length_eq, sizeLine_eq]
    have : scanBound ≤ 16777216 := by decide
    omega
  obtain ⟨h2, g2, d2, t2, o2⟩ := s'
  dsimp only at g o k hg hp
  subst g o
  have hn : H p = none := I.hok.fresh hp
  have J := I.call (ch := []) (Un.laid k hp hn) (I.hok.laid k hp (o := .lst ((srtS L).map V.str)) ⟨hlen, out.toList, c, vals_of_strs hi, hg⟩) (g' := s.gens) (d' := d2) (t' := t2) I.bare (fun _ z => nomatch z)
  exact ⟨.ref p, _, J, rfl, q p hn⟩
/-- sorted(a list of texts), of any length -/
def rSortLS (K : PySem.W.Frag) : List V → Hp → VK → Prop := fun xs H Q => ∃ (l : Addr) (ys : List Str), xs = [V.ref l] ∧ (SqL K H l (ys.map V.str) ∨ False) ∧ ys.length ≤ sizeLine ∧ ∀ p, H p = none → Q (.ref p) (upd H p (.lst ((srtS ys).map V.str)))
theorem cr_sortLS : CallR X (.builtin "sorted") (rSortLS X.K) := by
  intro pins s σ H vs us Q I r h
  obtain ⟨a, xs, rfl, hs, hz, q⟩ := h
  obtain ⟨its, rv, hl, _⟩ := I.list (hs.elim _root_.id False.elim)
  rw [Vals.ref1 r]
  have n0 := rv.length
  rw [List.length_map] at n0
  refine PyProof.Rows.sorted_strsAny hl.isList rv.strs (by omega) fun out ys h1 h2 h3 => ?_
  have e := sortedS_is h2 h3
  subst e
  obtain ⟨ep, he⟩ := PyProof.Rows.sortedAll_at s.heap its out
  have len : ((srtS xs).map V.str).length ≤ sizeLine := by rw [List.length_map, (srtS_perm xs).length_eq]; exact hz
  exact ⟨.ref _, upd H (s.heap.objs.size + 1) (.lst ((srtS xs).map V.str)), I.laid (t' := s.toks) (fun _ _ => PyProof.Rows.sortedAll_old) (Nat.le_succ _) ⟨len, out.toList, ep, vals_of_strs h1, he⟩, rfl, q _ (I.hok.fresh (Nat.le_succ _))⟩
end
theorem repS_map {F : Fz} : ∀ xs : List Str, Reps F (xs.map V.str) (xs.map D.str)
  | [] => .nil
  | x :: xs => .cons (.str x) (repS_map xs)
def gSortS : List D → D → Prop := fun as d => ∃ ys : List Str, as = [.lst (ys.map D.str)] ∧ ys.length ≤ sizeLine ∧ d = .lst ((srtS ys).map D.str)
theorem co_sortS {K : PySem.W.Frag} : CaO (rSortLS K) gSortS := fun E F H σ ρ vs ds d Q S vw ⟨ys, e1, hz, e2⟩ k => by
  subst e1; subst e2
  obtain ⟨v, rfl, h⟩ := vw.one
  obtain ⟨p, ws, rfl, hp, r⟩ := h.lst S.sits
  refine ⟨p, ys, rfl, .inl (.inl (by rw [← r.strs]; exact hp)), hz, fun l hl => ?_⟩
  obtain ⟨S', N⟩ := S.newLst hl (repS_map (srtS ys))
  exact k l _ F S' .refl N
/-! ### sorted(set(e)) -/
def mSrtSet (me : ME) : MO := fun ρ P => me ρ fun r ρ1 => ∃ ys : List Str, r.get ρ1 = some (.lst (ys.map D.str)) ∧ ys.length < scanBound ∧ P (.lst ((srtS (DT.met ys)).map D.str)) ρ1
section
variable {X : Cx} {E : En} {e : Expr} {p p2 pos pos2 : Pos} {me : ME}
theorem do_srtSet (hc : X.calm = true) (he : DE X E e me) (hg : Gl X "sorted") (hm : X.mg "sorted" = none) (hg2 : Gl X "set") (hm2 : X.mg "set" = none)
    (hs : starEach [e] X.env = (false, eval e X.env) :: starEach [] X.env := by rfl) (hs2 : starEach [Expr.Call (.Name "set" p2) [e] [] pos2] X.env = (false, eval (Expr.Call (.Name "set" p2) [e] [] pos2) X.env) :: starEach [] X.env := by rfl) :
    DO X E (.Call (.Name "sorted" p) [.Call (.Name "set" p2) [e] [] pos2] [] pos) (mSrtSet me) :=
  PE.to (pe_callB (cr_sortTS hc) hg hm rfl (pa_cons (pe_callTy (cr_setT hc) hg2 hm2 rfl (pa_cons he pa_nil hs) (by decide) (by decide) hs rfl) pa_nil hs2) (by decide) (by decide) hs2 rfl) fun σ H Q ⟨F, ρ, P, S, hm, k⟩ =>
  ⟨F, ρ, _, S, hm, fun r ρ1 v H1 F1 ⟨ys, g, few, hp⟩ S1 l1 d1 => by
    obtain ⟨l, ws, rfl, hw, rr⟩ := (S1.view d1 g).lst S1.sits
    refine ⟨l, ys, rfl, .inl (by rw [← rr.strs]; exact hw), few, fun q hq => ?_⟩
    have S2 := S1.lay (o := TSetO X.w q (DT.met ys)) hq
    refine ⟨q, DT.met ys, rfl, upd_same, Nat.lt_of_le_of_lt (DT.met_len ys) few, fun z hz => ?_⟩
    obtain ⟨S3, N⟩ := S2.newLst hz (repS_map (srtS (DT.met ys)))
    exact k _ _ z _ F1 hp S3 l1 N⟩
end
/-! ### dict displays -/
def mDict0 : MO := fun ρ P => P (.dic []) ρ
def mPairs : List (ME × ME) → DEnv → (List (Rf × Rf) → DEnv → Prop) → Prop
  | [], ρ, P => P [] ρ
  | (a, b) :: r, ρ, P => a ρ fun x ρ1 => b ρ1 fun y ρ2 => mPairs r ρ2 fun ps ρ3 => P ((x, y) :: ps) ρ3
def tLx (m : ME) : TE := fun σ H Q => ∃ E, tL E m σ H Q
theorem pairs_to {E : En} {σ : L2.St} : ∀ (ms : List (ME × ME)) (H : Hp) (Q : List (V × V) → Hp → Prop), (∃ F ρ P, SR E F H σ ρ ∧ mPairs ms ρ P ∧ ∀ rs ρ' ps H' F', P rs ρ' → SR E F' H' σ ρ' → Le F F' → VDens σ F' (ps.map Prod.fst) (rs.map Prod.fst) → VDens σ F' (ps.map Prod.snd) (rs.map Prod.snd) → Q ps H') →
    tPairs (ms.map fun m => (tLx m.1, tLx m.2)) σ H Q
  | [], H, Q, ⟨F, ρ, P, S, hp, k⟩ => k [] ρ [] H F hp S .refl trivial trivial
  | (a, b) :: r, H, Q, ⟨F, ρ, P, S, hm, k⟩ => ⟨E, F, ρ, _, S, hm, fun x ρ1 v H1 F1 hn S1 l1 d1 => ⟨E, F1, ρ1, _, S1, hn, fun y ρ2 w H2 F2 hn2 S2 l2 d2 =>
    pairs_to r H2 _ ⟨F2, ρ2, _, S2, hn2, fun rs ρ' ps H' F' hp S' l' e1 e2 => k _ ρ' _ H' F' hp S' ((l1.trans l2).trans l') ⟨d1.mono (l2.trans l'), e1⟩ ⟨d2.mono l', e2⟩⟩⟩⟩
def keysD (ρ : DEnv) : List Rf → Option (List Key)
  | [] => some []
  | r :: rs => (r.get ρ).bind fun d => (kD d).bind fun k => (keysD ρ rs).map fun ks => k :: ks
def mergeKD (kvs more : List (Key × D)) : List (Key × D) := more.foldl (fun acc kv => putKD acc kv.1 kv.2) kvs
theorem RepK.merge {F : Fz} : ∀ {more : List (Key × V)} {md : List (Key × D)} {kvs : List (Key × V)} {kd : List (Key × D)}, RepK F more md → RepK F kvs kd → RepK F (mergeK kvs more) (mergeKD kd md)
  | _, _, _, _, .nil, h => h
  | _, _, _, _, .cons (k := k) h r, hk => by
    have := RepK.merge r (hk.put (k := k) h)
    exact this
def mDict (ms : List (ME × ME)) : MO := fun ρ P => mPairs ms ρ fun ps ρ1 => ps.length ≤ 15 ∧ ∃ ks ds ρ2, keysD ρ1 (ps.map Prod.fst) = some ks ∧ escs ρ1 (ps.map Prod.snd) = some (ds, ρ2) ∧ P (.dic (mergeKD [] (ks.zip ds))) ρ2
theorem keys_of {F : Fz} {H : Hp} {σ : L2.St} {ρ : DEnv} {E : En} (S : SR E F H σ ρ) : ∀ {vs : List V} {rs : List Rf} {ks : List Key}, VDens σ F vs rs → keysD ρ rs = some ks → vs = ks.map kV
  | [], [], ks, _, e => by
    have : [] = ks := Option.some.inj e
    subst this
    rfl
  | v :: vs, r :: rs, ks, ⟨h, hs⟩, e => by
    unfold keysD at e
    cases e1 : r.get ρ with
    | none => simp [e1] at e
    | some d =>
      cases e2 : kD d with
      | none => simp [e1, e2] at e
      | some k =>
        cases e3 : keysD ρ rs with
        | none => simp [e1, e2, e3] at e
        | some kr =>
          simp [e1, e2, e3] at e
          subst e
          rw [List.map_cons, ← keys_of S hs e3, kD_v e2 (S.view h e1)]
theorem repK_zip {F : Fz} : ∀ {ks : List Key} {vs : List V} {ds : List D}, Reps F vs ds → RepK F (ks.zip vs) (ks.zip ds)
  | [], _, _, _ => by simpa using RepK.nil
  | _ :: _, _, _, .nil => .nil
  | _ :: _, _, _, .cons h r => .cons h (repK_zip r)
theorem unzip_pairs : ∀ {ps : List (V × V)} {ks : List Key} {vs : List V}, ps.map Prod.fst = ks.map kV → ps.map Prod.snd = vs → ps = (ks.zip vs).map fun kv => (kV kv.1, kv.2)
  | [], [], _, _, _ => by simp
  | [], _ :: _, _, h, _ => by simp at h
  | _ :: _, [], _, h, _ => by simp at h
  | (a, b) :: ps, k :: ks, _, h1, h2 => by
    subst h2
    simp only [List.map_cons, List.cons.injEq] at h1
    rw [List.map_cons, List.zip_cons_cons, List.map_cons, ← unzip_pairs h1.2 rfl, h1.1]
section
variable {X : Cx} {E : En} {pos : Pos} {k v : Expr} {mk mv : ME} {ks : List (Option Expr)} {vs : List Expr} {ms : List (ME × ME)}
theorem do_dict0 : DO X E (.Dict [] [] pos) mDict0 := PE.to pe_dnewK fun σ H Q ⟨F, ρ, P, S, hp, k⟩ => fun p hn => k _ _ p _ F hp (S.lay hn) .refl ⟨S.nil hn, ⟨[], upd_same, .nil⟩, S.fresh hn, S.go.free hn⟩
abbrev DPs (X : Cx) (pos : Pos) (ks : List (Option Expr)) (vs : List Expr) (ms : List (ME × ME)) : Prop := PPs X pos ks vs (ms.map fun m => (tLx m.1, tLx m.2))
theorem dps_nil : DPs X pos [] [] [] := pps_nil
theorem dps_cons (hk : ∀ E, DE X E k mk) (hv : ∀ E, DE X E v mv) (hr : DPs X pos ks vs ms) : DPs X pos (some k :: ks) (v :: vs) ((mk, mv) :: ms) :=
  pps_cons ⟨fun pins s σ H Q I ⟨E, h⟩ => (hk E).run pins s σ H Q I h⟩ ⟨fun pins s σ H Q I ⟨E, h⟩ => (hv E).run pins s σ H Q I h⟩ hr
theorem do_dict (h : DPs X pos ks vs ms) (hall : ks.all (·.isSome) = true) (hl : ks.length = vs.length) (h0 : ks ≠ []) (h15 : ks.length ≤ 15) : DO X E (.Dict ks vs pos) (mDict ms) :=
  PE.to (pe_disp h hall hl h0 h15) fun σ H Q ⟨F, ρ, P, S, hm, kk⟩ => fun p hp => by
    have S1 := S.lay hp (o := .dK [])
    have fp := S.nil hp
    have np := S.fresh hp
    have SA := S1.again
    refine pairs_to ms _ _ ⟨F, ρ, _, SA, hm, fun rs ρ1 ps H2 F2 ⟨hz, kz, ds, ρ2, hk, he, hP⟩ S2 l2 d1 d2 => ?_⟩
    have hp2 : H2 p = some (.dK []) := S2.go.keep p _ upd_same (fun z => np z) fun ⟨d, z⟩ => by
      rw [show (anew F (upd H p (.dK [])) σ ρ).F p = none from fp] at z; cases z
    have ek := keys_of S2 d1 hk
    obtain ⟨F3, l3, S3, r3⟩ := SR.escL S2 d2 he
    have f3 : F3 p = none := by
      cases q : F3 p with
      | none => rfl
      | some fo =>
        rcases S3.go.fz p fo q with z | z | z
        · rw [show (anew F (upd H p (.dK [])) σ ρ).F p = none from fp] at z; cases z
        · rw [show (anew F (upd H p (.dK [])) σ ρ).H p = some (.dK []) from upd_same] at z; cases z
        · exact absurd z np
    have n3 : ¬ Owns σ ρ2 p := fun z => by
      rcases S3.go.own p z with z | z
      · exact np z
      · rw [show (anew F (upd H p (.dK [])) σ ρ).H p = some (.dK []) from upd_same] at z; cases z
    have S4 := S1.back S3
    have en := S.go.free hp
    have lk : (kz.zip (ps.map Prod.snd)).length ≤ 15 := by
      have a := d1.len
      simp only [List.length_map] at a
      simp only [List.length_zip, List.length_map]
      omega
    exact ⟨hp2, kz.zip (ps.map Prod.snd), unzip_pairs ek rfl, lk, kk _ _ p _ F3 hP (S4.poke f3 n3 en) (l2.trans l3) ⟨f3, ⟨_, upd_same, (repK_zip r3).merge .nil⟩, n3, en⟩⟩
end
end DL
/-! DL21: signs, sums, pairs of stores, and the short forms that the printed terms use. -/
namespace DL
open PySem L2
section
variable {X : Cx} {E : En} {e a b c : Expr} {pos : Pos} {me ma : ME}
def mNeg (m : ME) : ME := fun ρ P => m ρ fun r ρ1 => ∃ i, r.get ρ1 = some (.int i) ∧ P (.val (.int (-i))) ρ1
theorem de_neg (h : DE X E a ma) : DE X E (.UnaryOp .USub a pos) (mNeg ma) := PE.to (pe_un un_neg h) fun σ H Q ⟨F, ρ, P, S, hm, k⟩ =>
  ⟨F, ρ, _, S, hm, fun r ρ1 v H1 F1 ⟨i, g, hp⟩ S1 l1 d1 => ⟨i, (S1.view d1 g).int, k _ _ _ H1 F1 hp S1 l1 (.int _)⟩⟩
def gSum : List D → D → Prop := fun as d => ∃ ns : List Int, as = [.lst (ns.map D.int)] ∧ d = .int ns.sum
theorem ca_sum {K : PySem.W.Frag} : CaD (rSum K) gSum := fun E F H σ ρ vs ds d Q S vw ⟨ns, e1, e2⟩ k => by
  subst e1; subst e2
  obtain ⟨v, rfl, h⟩ := vw.one
  obtain ⟨p, ws, rfl, hp, r⟩ := h.lst S.sits
  exact ⟨p, ns, rfl, .inl (by rw [← r.ints]; exact hp), k _ H F S .refl (.int _)⟩
/-! a, b = x, y -/
def mPar (i j : Nat) (m : MA) : MS := fun K ρ => m ρ fun rs ρ1 => ∃ d1 d2 ρ2, escs ρ1 rs = some ([d1, d2], ρ2) ∧ K.nx ((ρ2.set i (some (.fz d1))).set j (some (.fz d2)))
theorem Reps.two {F : Fz} : ∀ {vs : List V} {d e : D}, Reps F vs [d, e] → ∃ v w, vs = [v, w] ∧ Rep F v d ∧ Rep F w e
  | _, _, _, .cons h (.cons k .nil) => ⟨_, _, rfl, h, k⟩
theorem Reps.three {F : Fz} : ∀ {vs : List V} {d e f : D}, Reps F vs [d, e, f] → ∃ v w u, vs = [v, w, u] ∧ Rep F v d ∧ Rep F w e ∧ Rep F u f
  | _, _, _, _, .cons h (.cons k (.cons l .nil)) => ⟨_, _, _, rfl, h, k, l⟩
theorem ds_par {i j : Nat} {st : Stmt} {m : MA} (h : PS X st (tPar i j (tLA E m))) : DS X E st (mPar i j m) := PS.to h fun Q σ H ⟨F, ρ, P, S, h, f⟩ =>
  ⟨F, ρ, _, S, h, fun rs ρ1 vs H1 F1 ⟨d1, d2, ρ2, he, hp⟩ S1 l1 dd => by
    obtain ⟨F2, l2, S2, rr⟩ := SR.escL S1 dd he
    obtain ⟨v, w, rfl, r1, r2⟩ := rr.two
    exact ⟨v, w, rfl, f.nx _ _ H1 F2 hp ((S2.fzSet i r1).fzSet j r2) (l1.trans l2)⟩⟩
def mPar3 (i j l : Nat) (m : MA) : MS := fun K ρ => m ρ fun rs ρ1 => ∃ d1 d2 d3 ρ2, escs ρ1 rs = some ([d1, d2, d3], ρ2) ∧ K.nx (((ρ2.set i (some (.fz d1))).set j (some (.fz d2))).set l (some (.fz d3)))
theorem ds_par3 {i j l : Nat} {st : Stmt} {m : MA} (h : PS X st (tPar3 i j l (tLA E m))) : DS X E st (mPar3 i j l m) := PS.to h fun Q σ H ⟨F, ρ, P, S, h, f⟩ =>
  ⟨F, ρ, _, S, h, fun rs ρ1 vs H1 F1 ⟨d1, d2, d3, ρ2, he, hp⟩ S1 l1 dd => by
    obtain ⟨F2, l2, S2, rr⟩ := SR.escL S1 dd he
    obtain ⟨v, w, u, rfl, r1, r2, r3⟩ := rr.three
    exact ⟨v, w, u, rfl, f.nx _ _ H1 F2 hp (((S2.fzSet i r1).fzSet j r2).fzSet l r3) (l1.trans l2)⟩⟩
end
section
variable {X : Cx} {E : En} {e : Expr} {pos : Pos} {me : ME} {f : Str} {K : PySem.W.Frag}
theorem de_fldK (hK : X.K = K) (h : DE X E e me) (hb : attributeBase e f X.env (eval e X.env) = eval e X.env := by rfl) : DE X E (.Attribute e f pos) (mFld K f me) := by
  subst hK
  exact de_fld h hb
theorem ds_fldK {i : Nat} {x : Str} {p pos' : Pos} {value : Expr} (hK : X.K = K) (ho : PE X (.Name x p) (tVar i)) (hv : DE X E value me) (hs : swapsWith value (some (.Attribute (.Name x p) f pos')) pos.line X.env = pure false := by rfl) :
    DS X E (.Assign [.Attribute (.Name x p) f pos'] value pos) (mFldS K i f me) := by
  subst hK
  exact ds_fld ho hv hs
theorem de_isiK {c : Expr} {p : Pos} {cv : V} {cu : Value} (hK : X.K = K) (hc : PE X c (tC cv)) (hv : ClsV cv cu) (he : DE X E e me) (hg : Gl X "isinstance") (hm : X.mg "isinstance" = none) (hs : starEach [e, c] X.env = (false, eval e X.env) :: starEach [c] X.env := by rfl) (hs2 : starEach [c] X.env = (false, eval c X.env) :: starEach [] X.env := by rfl)
    (hpl : (backTo pos (starEach [c] X.env)).any (·.1) = false := by rfl) : DE X E (.Call (.Name "isinstance" p) [e, c] [] pos) (mIsi (gIsi K cu) me) := by
  subst hK
  exact de_isi hc hv he hg hm hs hs2 hpl
end
/-! ### short forms -/
abbrev W0 : WX := fun _ _ _ _ => False
/-- a def of the top -/
structure At (K : PySem.W.Frag) (mg : Str → Option Value) (x : Str) (f : Addr) (fd : FuncData) (ps : List Str) : Prop where
  mg : mg x = some (.ref f)
  kp : PySem.W.keepIn K (.ref f) = true
  b : Binds K fd ps []
/-- a method of the class at C -/
structure MAt (K : PySem.W.Frag) (C : Addr) (x : Str) (f : Addr) (fd : FuncData) (ps : List Str) : Prop where
  m : Meth K C x f
  b : Binds K fd ps []
/-- a property -/
structure PAt (K : PySem.W.Frag) (C : Addr) (x : Str) (q g : Addr) (fd : FuncData) (ps : List Str) : Prop where
  p : PropOf K C x q g
  b : Binds K fd ps []
/-- a class whose __init__ is the def at f -/
structure CAt (K : PySem.W.Frag) (mg : Str → Option Value) (x : Str) (C f : Addr) (fd : FuncData) (ps : List Str) : Prop where
  cl : Cls K C
  mg : mg x = some (.ref C)
  make : Mk K C f
  b : Binds K fd ps []
end DL
/-! DL22: name op= e, an instance of a class without the in-place def. -/
namespace DL
open PySem L2
section
open PySem.Spec PyProof.Rows PySem.W
variable {prog : Program} {w : World} {A : Around} {E : Value → Shared → Prop} {s : Shared} {K : Frag} {x C L f g : Addr} {h₀ : Heap} {m : Str → Option Value} {ox : Obj} {od : Option Obj} {T : String}
/-- no in-place def in the class's row -/
structure NoIn (K : Frag) (C : Addr) (nm : String) : Prop where
  at_ : ∃ cd, clsIn K C = some cd ∧ cd.mro = [.ref C, .type "object"]
  own : findIn K (.ref C) (dunderI nm) = some none
  top : findIn K (.type "object") (dunderI nm) = some none
theorem looks_noIn {M : Model} {h : Heap} {nm : String} {add : Bool} (X : K.In h) (N : NoIn K C nm) : Looks M h (fillsInplaceSlot (.ref C) nm add) false := by
  intro A Q E s k q
  obtain ⟨⟨cd, hc, hm⟩, h1, h2⟩ := N
  have Lm : Looks M h (mroOf (.ref C)) cd.mro := (looks_clsIn X hc).andThen (f := fun cd => pure cd.mro) .now
  have L1 : Looks M h (typeLookup (.ref C) (dunderI nm)) none := looks_findIn X h1
  have L2 : Looks M h (typeLookup (.type "object") (dunderI nm)) none := looks_findIn X h2
  unfold fillsInplaceSlot
  refine wpAny_bind (Lm A _ E s k ?_)
  rw [hm, List.anyM_cons]
  refine wpAny_bind (wpAny_bind (L1 A _ E s k ?_))
  refine wpAny_pure ?_
  simp only [Bool.false_eq_true, if_false]
  rw [List.anyM_cons]
  refine wpAny_bind (wpAny_bind (L2 A _ E s k ?_))
  refine wpAny_pure ?_
  simp only [Bool.false_eq_true, if_false]
  rw [List.anyM_nil]
  exact wpAny_pure q
theorem inop_K {op : Operator} {b : Value} {Q : Value → Shared → Prop} (F : Fr h₀ L s.heap m) (X₀ : K.In h₀) (N : NoIn K C op.info.2) (I : InstAt s.heap x ox C od) (hb : Looks (model prog w) s.heap (typeOf b) (.ref C)) (hc : selfFirst K C = true)
    (hs : findIn K (.ref C) (PySem.dunder op.info.2) = some (some (.ref f))) (hf : isFn K (.ref f) = true)
    (h : wpAny (model prog w) A (call (.ref f) [.ref x, b]) (PySem.W.CmpBack Q) E s) : wpAny (model prog w) A (inplaceOp op (.ref x) b) Q E s := by
  have X := X₀.keeps F.keep
  have LN := looks_noIn (M := model prog w) (add := op == .Add) X N
  obtain ⟨cd, hcd, hm⟩ := any_some hc
  obtain ⟨rest, hm⟩ : ∃ rest, cd.mro = .ref C :: rest := by
    cases q : cd.mro with
    | nil => rw [q] at hm; cases hm
    | cons a r => rw [q] at hm; exact ⟨r, by rw [List.head?_cons] at hm; cases (beq_iff_eq.mp hm); rfl⟩
  unfold inplaceOp
  refine wpAny_holding (wpAny_bind (I.type.here (wpAny_bind (LN.here ?_))))
  simp only [Bool.false_eq_true, if_false]
  refine wpAny_bind ?_
  unfold binaryOp1
  refine wpAny_bind (I.type.here (wpAny_bind (hb.here (wpAny_bind ((fills_K X hcd hm hs).here ?_)))))
  simp only [beq_self_eq_true, if_true]
  refine wpAny_bind (wpAny_pure ?_)
  simp only [Bool.and_false, Bool.false_eq_true, if_false, Bool.false_and]
  refine wpAny_bind (wpAny_pure ?_)
  simp only [Bool.false_eq_true, if_false]
  refine wpAny_bind (m := tryMethod (.ref x) _ b) ?_
  unfold tryMethod
  refine wpAny_bind (special_fn X I hs (beq_iff_eq.mp hf) (wpAny_mono h (fun v s' hv => ?_) fun _ _ e => e))
  cases v <;> first | exact hv.elim | exact wpAny_pure (wpAny_pure (wpAny_pure hv))
theorem in_bin1 {op : Operator} {b : Value} {Q : Value → Shared → Prop} (X : K.In s.heap) (N : NoIn K C op.info.2) (I : InstAt s.heap x ox C od)
    (h : wpAny (model prog w) A (binaryOp1 op.info.2 (.ref x) b) (fun o s' => ∃ v, o = some v ∧ Q v s') E s) : wpAny (model prog w) A (inplaceOp op (.ref x) b) Q E s := by
  have LN := looks_noIn (M := model prog w) (add := op == .Add) X N
  unfold inplaceOp
  refine wpAny_holding (wpAny_bind (I.type.here (wpAny_bind (LN.here ?_))))
  simp only [Bool.false_eq_true, if_false]
  refine wpAny_bind (wpAny_mono h (fun o s' ho => ?_) fun _ _ e => e)
  obtain ⟨v, rfl, hq⟩ := ho
  exact wpAny_pure hq
theorem bin1_T {nm' : String} {b : Value} {fo ro rc : Option Value} {Q : Value → Shared → Prop} (X : K.In s.heap) (I : InstAt s.heap x ox C od) (hb : typeOf b = pure (.type T)) (hc : selfFirst K C = true)
    (hs : findIn K (.ref C) (PySem.dunder nm') = some (some (.ref f))) (hf : isFn K (.ref f) = true) (hr : findIn K (.ref C) (dunderR nm') = some rc) (hp : rc = none ∨ ∃ g : Addr, rc = some (.ref g))
    (h1 : findIn K (.type T) (PySem.dunder nm') = some fo) (h2 : findIn K (.type T) (dunderR nm') = some ro) (hsub : subIn K (.type T) (.ref C) = some false)
    (h : wpAny (model prog w) A (call (.ref f) [.ref x, b]) (PySem.W.CmpBack Q) E s) : wpAny (model prog w) A (binaryOp1 nm' (.ref x) b) (fun o s' => ∃ v, o = some v ∧ Q v s') E s := by
  obtain ⟨cd, rest, hcd, hm⟩ := ksp_first hc
  have one := ksp_try X I hs hf h
  obtain ⟨hh, g, d, tt, os⟩ := s
  have L1 : Looks (model prog w) hh (typeOf (.ref x)) (.ref C) := I.type
  have L2 : Looks (model prog w) hh (typeOf b) (.type T) := Looks.of_pure hb
  have L3 : Looks (model prog w) hh (fillsNumberSlot (.ref C) nm') true := fills_K X hcd hm hs
  have L4 : Looks (model prog w) hh (fillsNumberSlot (.type T) nm') ((fo.isSome && !isSeqSlot fo) || (ro.isSome && !isSeqSlot ro)) := ksp_fillsT X h1 h2
  have L5 : Looks (model prog w) hh (isSubtype (.type T) (.ref C)) false := looks_subIn X hsub
  have L6 : Looks (model prog w) hh (numberSlotInPython (.ref C) nm') true := ksp_inPy X hs hr hp
  have L7 : Looks (model prog w) hh (numberSlotInPython (.type T) nm') false := Looks.of_pure rfl
  have L8 : Looks (model prog w) hh (typeLookup (.type T) (dunderR nm')) ro := looks_findIn X h2
  generalize ((fo.isSome && !isSeqSlot fo) || (ro.isSome && !isSeqSlot ro)) = right at L4
  have hne : (Value.ref C == Value.type T) = false := Bool.eq_false_iff.mpr fun q => by cases beq_iff_eq.mp q
  unfold binaryOp1
  refine wpAny_bind (L1.at (wpAny_bind (L2.at (wpAny_bind (L3.at ?_)))))
  simp only [hne, Bool.false_eq_true, if_false]
  cases right with
  | false =>
    ksp_lk
    refine wpAny_mono one (fun r s' hr' => ?_) fun _ _ e => e
    obtain ⟨v, rfl, hq⟩ := hr'
    ksp_lk
    exact ⟨v, rfl, hq⟩
  | true =>
    ksp_lk
    refine wpAny_mono one (fun r s' hr' => ?_) fun _ _ e => e
    obtain ⟨v, rfl, hq⟩ := hr'
    ksp_lk
    exact ⟨v, rfl, hq⟩
theorem inop_T {op : Operator} {b : Value} {fo ro rc : Option Value} {Q : Value → Shared → Prop} (F : Fr h₀ L s.heap m) (X₀ : K.In h₀) (N : NoIn K C op.info.2) (I : InstAt s.heap x ox C od) (hb : typeOf b = pure (.type T)) (hc : selfFirst K C = true)
    (hs : findIn K (.ref C) (PySem.dunder op.info.2) = some (some (.ref f))) (hf : isFn K (.ref f) = true) (hr : findIn K (.ref C) (dunderR op.info.2) = some rc) (hp : rc = none ∨ ∃ g : Addr, rc = some (.ref g))
    (h1 : findIn K (.type T) (PySem.dunder op.info.2) = some fo) (h2 : findIn K (.type T) (dunderR op.info.2) = some ro) (hsub : subIn K (.type T) (.ref C) = some false)
    (h : wpAny (model prog w) A (call (.ref f) [.ref x, b]) (PySem.W.CmpBack Q) E s) : wpAny (model prog w) A (inplaceOp op (.ref x) b) Q E s :=
  in_bin1 (X₀.keeps F.keep) N I (bin1_T (X₀.keeps F.keep) I hb hc hs hf hr hp h1 h2 hsub h)
end
section
variable {X : Cx} {op : Operator} {C f g : Addr} {CX : CXT} {k : Nat} {fd : FuncData} {ps : List Str} {sp : Sp} {E : XK}
theorem in_ownL {pins : List (Addr × Obj)} {s : Shared} {σ : L2.St} {H : Hp} {x y : V} {v u : Value} {Q : VK} (T : OwnL X.K C op f) (N : NoIn X.K C op.info.2) (G : FnG X.prog X.w X.K X.mg X.base CX k f fd ps sp) (hr : RoomG k X.A) (hb : Binds X.K fd ps []) (hx : PassesAt CX X σ E)
    (I : Inv X pins σ H s) (rx : RelV x v) (ry : RelV y u) (h : rOwnL C sp E x y H Q) : wpAny (model X.prog X.w) X.A (inplaceOp op v u) (EP X pins σ Q) X.xe s := by
  obtain ⟨a, dx, fs, rfl, ea, hy, hs⟩ := h
  obtain ⟨mA, O, _⟩ := ins_get I.hok ea
  obtain ⟨od, J, _⟩ := O.look
  obtain ⟨mm, hF⟩ := I.fr
  have go := back_mono (run_fnG (W' := fun _ => E) (ds := []) (dvs := []) G hr hb .nil hx I (.cons rx (.cons ry .nil)) (by simpa using hs))
  cases rx
  rcases hy with ⟨b, dy, gs, rfl, eb⟩ | ⟨i, rfl⟩
  · cases ry
    obtain ⟨mB, O', _⟩ := ins_get I.hok eb
    obtain ⟨od', J', _⟩ := O'.look
    exact inop_K hF I.ok.mod.kin N J J'.type T.first T.l T.fl go
  · obtain ⟨t, rfl⟩ := ry
    obtain ⟨rc, r1, r2⟩ := T.r
    obtain ⟨fo, h1⟩ := T.li
    obtain ⟨ro, h2⟩ := T.ri
    exact inop_T (T := "int") hF I.ok.mod.kin N J rfl T.first T.l T.fl r1 r2 h1 h2 T.ni go
end
section
variable {X : Cx} {E : En} {e a b : Expr} {pos : Pos} {op : Operator} {C f g : Addr} {CL CR : CXT} {kl kr : Nat} {fdl fdr : FuncData} {psl psr : List Str} {spL spR : DSp} {EX : DX} {W : WX} {ma mb : ME}
theorem ds_aug {i : Nat} {x : Str} {p : Pos} (T : OwnL X.K C op f) (N : NoIn X.K C op.info.2) (GL : FnG X.prog X.w X.K X.mg X.base CL kl f fdl psl (liftSp spL)) (hrl : RoomG kl X.A) (hbl : Binds X.K fdl psl [])
    (lk : Lk E EX W) (hxl : PassW CL X W) (hN : X.N.Nodup) (hi : X.N[i]? = some x) (hx : Loc X.env.scope x) (hb : DE X E b mb) (hf : X.fn x = true ∨ X.env.scope.names.lookup x = some .local := by first | exact .inl rfl | exact .inr rfl | assumption) :
    DS X E (.AugAssign (.Name x p) op b pos) (mSet (mOwn C spL noS EX (mVar i) mb) (gSet i)) := ⟨fun pins s σ H D I h => by
  have h1 := asg_to (me := mOwn C spL noS EX (mVar i) mb) (g := gSet i) D σ H h
  have h2 : tL E (mOwn C spL noS EX (mVar i) mb) σ H (fun z H1 => D.nx (σ.set i (some z)) H1) := by
    obtain ⟨F, ρ, P, S, hm, k⟩ := h1
    refine ⟨F, ρ, P, S, hm, fun r ρ1 v H1 F1 hp S1 l1 d1 => ?_⟩
    obtain ⟨F2, ρ2, d, P2, S2, r2, hq, k2⟩ := k r ρ1 v H1 F1 hp S1 l1 d1
    exact k2 _ _ H1 F2 hq (S2.fzSet i r2) .refl
  clear h h1
  obtain ⟨F, ρ, P, S, ⟨⟨dv, hdv⟩, hm⟩, k⟩ := h2
  obtain ⟨v, e1, _⟩ := S.at_ i dv hdv
  obtain ⟨m, hn, hl⟩ := I.loc
  have vis : Vis X.env.scope x := by rcases hx with k | k; exact .inl k; exact .inr (.inl k)
  obtain ⟨u, r, l⟩ := hl i x v hi e1 vis
  refine wpAny_AugAssign_Name ?_
  have go : wpAny (model X.prog X.w) X.A (eval b X.env) (fun w s₂ => wpAny (model X.prog X.w) X.A (inplaceOp op u w) (fun r s₃ => wpAny (model X.prog X.w) X.A (storeName X.env x r) (fun _ => SP X pins D .next) X.xe s₃) X.xe s₂) X.xe s := by
    refine thn (hb.run pins s σ H (fun y H2 => rOwnL C (liftSp spL) (WE W σ) v y H2 (fun z H1 => D.nx (σ.set i (some z)) H1)) I ⟨F, ρ, _, S, hm, fun r2 ρ2 y H2 F2 ⟨x1, x2, g1, g2, hh⟩ S2 l2 d2 => ?_⟩) fun w s1 ⟨y, H1, I1, r1, q1⟩ => ?_
    · have v1 := S2.view (r := .sl i) e1 g1
      have v2 := S2.view d2 g2
      rcases hh with ⟨c1, c2, as, ρ3, is, hd, hs⟩ | ⟨c1, c2, as, ρ3, is, hd, hs⟩
      · obtain ⟨fs, rfl⟩ := isC_ins c1
        obtain ⟨a0, dx, vs, rfl, hH, _⟩ := v1.ins S2.sits
        refine ⟨a0, dx, vs, rfl, hH, ?_, ?_⟩
        · rcases Bool.or_eq_true_iff.mp c2 with c2 | c2
          · obtain ⟨gs, rfl⟩ := isC_ins c2
            obtain ⟨b0, dy, ws, rfl, hH2, _⟩ := v2.ins S2.sits
            exact .inl ⟨b0, dy, ws, rfl, hH2⟩
          · obtain ⟨i, rfl⟩ := isI_int c2
            exact .inr ⟨i, v2.int⟩
        · obtain ⟨F3, l3, S3, a3⟩ := SR.handed (vs := [.ref a0, y]) (rs := [.sl i, r2]) S2 ⟨e1, d2, trivial⟩ hd
          have := S3.ask (W := W) (dvs := []) (df := []) (sp := spL) (Q := fun z H1 => D.nx (σ.set i (some z)) H1) a3 .nil lk (by simpa using hs) (fun d ρ4 v H' F' hp S' l' r => k (.val d) _ _ H' F' hp S' ((l2.trans l3).trans l') r) fun d ρ4 p H' F' hp S' l' N => by
            obtain ⟨F4, l4, S4, r4⟩ := S'.freeze N
            exact k (.val d) _ _ H' F4 hp S4 (((l2.trans l3).trans l').trans l4) r4
          simpa using this
      · exact hs.elim
    · refine thn (in_ownL T N GL hrl hbl (hxl σ) I1 r r1 q1) fun z s2 ⟨zv, H2, I2, r2, q2⟩ => ?_
      exact store_ok I2 hN hi hx r2 (fun s3 I3 => ⟨_, H2, I3, q2⟩) hf
  rcases l with ⟨hk, hm⟩ | ⟨hk, c, hc, hcell⟩
  · exact wpAny_loadName_local I.ok.kind hk hn hm go
  · rcases hk with hk | hk
    · exact wpAny_loadName_cell I.ok.kind hk hc hcell go
    · rcases hx with k | k
      · have : X.env.scope.names.lookup x = some .free := hk
        rw [k] at this; cases this
      · have : X.env.scope.names.lookup x = some .free := hk
        rw [k] at this; cases this⟩
end
end DL
/-! FL1: the texts' parts as functions of the slots. -/
namespace DL
open PySem L2
/-- what an expression comes to -/
inductive R (α : Type) where
  | ok (a : α) (ρ : DEnv) | ex (C : Addr) (d : D) (ρ : DEnv) | no
/-- what a statement comes to -/
inductive Z where
  | nx (ρ : DEnv) | rt (d : D) (ρ : DEnv) | ro (d : D) (ρ : DEnv) | bk (ρ : DEnv) | ct (ρ : DEnv) | ex (C : Addr) (d : D) (ρ : DEnv) | no
/-- what a call comes to -/
inductive FR where
  | rt (d : D) (ns : List D) | ro (d : D) (ns : List D) | ex (C : Addr) (d : D) (ns : List D) | no
abbrev FF := List DV → FR
abbrev F1 (α : Type) := DEnv → R α
abbrev FE := F1 Rf
abbrev FW := F1 D
abbrev FT := F1 Bool
abbrev FA := F1 (List Rf)
abbrev FI := F1 (List D)
abbrev FP := F1 (Option Int)
abbrev FG := D → DEnv → Option DEnv
abbrev FGs := List D → DEnv → Option DEnv
abbrev FS := DEnv → Z
section
variable {α β : Type}
def R.bind (x : R α) (k : α → DEnv → R β) : R β := match x with
  | .ok a ρ => k a ρ
  | .ex C d ρ => .ex C d ρ
  | .no => .no
/-- .. where no exception is let out -/
def R.bnd (x : R α) (k : α → DEnv → R β) : R β := match x with
  | .ok a ρ => k a ρ
  | _ => .no
def R.z (x : R α) (k : α → DEnv → Z) : Z := match x with
  | .ok a ρ => k a ρ
  | .ex C d ρ => .ex C d ρ
  | .no => .no
def ob (o : Option α) (k : α → R β) : R β := match o with
  | some a => k a
  | none => .no
def oz (o : Option α) (k : α → Z) : Z := match o with
  | some a => k a
  | none => .no
def Z.seq (z : Z) (f : FS) : Z := match z with
  | .nx ρ => f ρ
  | z => z
@[simp] theorem bind_ok (a : α) (ρ : DEnv) (k : α → DEnv → R β) : (R.ok a ρ).bind k = k a ρ := rfl
@[simp] theorem bind_ex (C : Addr) (d : D) (ρ : DEnv) (k : α → DEnv → R β) : (R.ex C d ρ : R α).bind k = .ex C d ρ := rfl
@[simp] theorem bind_no (k : α → DEnv → R β) : (R.no : R α).bind k = .no := rfl
@[simp] theorem bnd_ok (a : α) (ρ : DEnv) (k : α → DEnv → R β) : (R.ok a ρ).bnd k = k a ρ := rfl
@[simp] theorem bnd_ex (C : Addr) (d : D) (ρ : DEnv) (k : α → DEnv → R β) : (R.ex C d ρ : R α).bnd k = .no := rfl
@[simp] theorem bnd_no (k : α → DEnv → R β) : (R.no : R α).bnd k = .no := rfl
@[simp] theorem z_ok (a : α) (ρ : DEnv) (k : α → DEnv → Z) : (R.ok a ρ).z k = k a ρ := rfl
@[simp] theorem z_ex (C : Addr) (d : D) (ρ : DEnv) (k : α → DEnv → Z) : (R.ex C d ρ : R α).z k = .ex C d ρ := rfl
@[simp] theorem z_no (k : α → DEnv → Z) : (R.no : R α).z k = .no := rfl
@[simp] theorem ob_some (a : α) (k : α → R β) : ob (some a) k = k a := rfl
@[simp] theorem ob_none (k : α → R β) : ob none k = .no := rfl
@[simp] theorem oz_some (a : α) (k : α → Z) : oz (some a) k = k a := rfl
@[simp] theorem oz_none (k : α → Z) : oz none k = .no := rfl
@[simp] theorem seq_nx (ρ : DEnv) (f : FS) : (Z.nx ρ).seq f = f ρ := rfl
@[simp] theorem seq_rt (d : D) (ρ : DEnv) (f : FS) : (Z.rt d ρ).seq f = .rt d ρ := rfl
@[simp] theorem seq_ro (d : D) (ρ : DEnv) (f : FS) : (Z.ro d ρ).seq f = .ro d ρ := rfl
@[simp] theorem seq_bk (ρ : DEnv) (f : FS) : (Z.bk ρ).seq f = .bk ρ := rfl
@[simp] theorem seq_ct (ρ : DEnv) (f : FS) : (Z.ct ρ).seq f = .ct ρ := rfl
@[simp] theorem seq_ex (C : Addr) (d : D) (ρ : DEnv) (f : FS) : (Z.ex C d ρ).seq f = .ex C d ρ := rfl
@[simp] theorem seq_no (f : FS) : Z.no.seq f = .no := rfl
/-! ### data -/
def D.blsOf : List D → Option (List Bool)
  | [] => some []
  | .bl b :: r => (blsOf r).map (b :: ·)
  | _ => none
def D.strsOf : List D → Option (List Str)
  | [] => some []
  | .str b :: r => (strsOf r).map (b :: ·)
  | _ => none
def D.intsOf : List D → Option (List Int)
  | [] => some []
  | .int b :: r => (intsOf r).map (b :: ·)
  | _ => none
open D (blsOf strsOf intsOf)
@[simp] theorem blsOf_map : ∀ bs : List Bool, blsOf (bs.map D.bl) = some bs
  | [] => rfl
  | b :: bs => by simp [blsOf, blsOf_map bs]
@[simp] theorem strsOf_map : ∀ bs : List Str, strsOf (bs.map D.str) = some bs
  | [] => rfl
  | b :: bs => by simp [strsOf, strsOf_map bs]
@[simp] theorem intsOf_map : ∀ bs : List Int, intsOf (bs.map D.int) = some bs
  | [] => rfl
  | b :: bs => by simp [intsOf, intsOf_map bs]
theorem blsOf_eq : ∀ {ds : List D} {bs : List Bool}, blsOf ds = some bs → ds = bs.map D.bl
  | [], bs, h => by simp [blsOf] at h; subst h; rfl
  | .bl b :: r, bs, h => by
    simp only [blsOf, Option.map_eq_some_iff] at h
    obtain ⟨c, h, rfl⟩ := h
    simp [blsOf_eq h]
theorem strsOf_eq : ∀ {ds : List D} {bs : List Str}, strsOf ds = some bs → ds = bs.map D.str
  | [], bs, h => by simp [strsOf] at h; subst h; rfl
  | .str b :: r, bs, h => by
    simp only [strsOf, Option.map_eq_some_iff] at h
    obtain ⟨c, h, rfl⟩ := h
    simp [strsOf_eq h]
theorem intsOf_eq : ∀ {ds : List D} {bs : List Int}, intsOf ds = some bs → ds = bs.map D.int
  | [], bs, h => by simp [intsOf] at h; subst h; rfl
  | .int b :: r, bs, h => by
    simp only [intsOf, Option.map_eq_some_iff] at h
    obtain ⟨c, h, rfl⟩ := h
    simp [intsOf_eq h]
/-! binary operators -/
def addD : D → D → Option D
  | .int i, .int j => some (.int (i + j))
  | .str x, .str y => if x.length + y.length ≤ sizeLine then some (.str (x ++ y)) else none
  | .lst x, .lst y => if x.length + y.length ≤ sizeLine then some (.lst (x ++ y)) else none
  | .tup x, .tup y => if x.length + y.length ≤ sizeLine then some (.tup (x ++ y)) else none
  | _, _ => none
def catD : D → D → Option D
  | .lst x, .lst y => if x.length + y.length ≤ sizeLine then some (.lst (x ++ y)) else none
  | _, _ => none
def subD : D → D → Option D
  | .int i, .int j => some (.int (i - j))
  | _, _ => none
def mulOk (a b : Int) : Bool := !(decide (Builtin.Int.intBits a > shortFactorBits) && decide (Builtin.Int.intBits b > shortFactorBits) && Builtin.Int.intTooBig (Builtin.Int.intBits a + Builtin.Int.intBits b))
def mulD : D → D → Option D
  | .int i, .int j => if mulOk i j = true then some (.int (i * j)) else none
  | .str z, .int k => if -(2 ^ 63) ≤ k ∧ k ≤ 16777216 ∧ z.length * k.toNat ≤ 16777216 then some (.str (repS z k)) else none
  | _, _ => none
def divD : D → D → Option D
  | .int i, .int j => if 0 < j ∧ j.natAbs.log2 < 9000 then some (.int (i / j)) else none
  | _, _ => none
def modD : D → D → Option D
  | .int i, .int j => if 0 < j then some (.int (i % j)) else none
  | _, _ => none
def powD : D → D → Option D
  | .int i, .int j => if 0 ≤ j ∧ (Builtin.Int.intBits i : Int) * j ≤ 134217728 then some (.int (i ^ j.toNat)) else none
  | _, _ => none
def ltD : D → D → Option D
  | .int i, .int j => some (.bl (decide (i < j)))
  | .str i, .str j => some (.bl (decide (i.cps.toList < j.cps.toList)))
  | _, _ => none
def gtD : D → D → Option D
  | .int i, .int j => some (.bl (decide (j < i)))
  | .str i, .str j => some (.bl (decide (j.cps.toList < i.cps.toList)))
  | _, _ => none
def leD : D → D → Option D
  | .int i, .int j => some (.bl (decide (i ≤ j)))
  | _, _ => none
def geD : D → D → Option D
  | .int i, .int j => some (.bl (decide (j ≤ i)))
  | _, _ => none
/-- == of plain data -/
def eqD : D → D → Option D
  | .str i, .str j => some (.bl (decide (i = j)))
  | a, b => if plain 64 a = true ∧ plain 64 b = true then some (.bl (PyData.eqv (py a) (py b))) else none
def neD : D → D → Option D
  | .str i, .str j => some (.bl (!decide (i = j)))
  | a, b => if plain 64 a = true ∧ plain 64 b = true then some (.bl (!PyData.eqv (py a) (py b))) else none
def isN : D → D → Option D
  | a, .non => some (.bl a.isNon)
  | _, _ => none
def isntN : D → D → Option D
  | a, .non => some (.bl (!a.isNon))
  | _, _ => none
/-! == of data with instances in it: fe tells the own == of the classes -/
mutual
/-- may two data stand at one place? -/
def same : D → D → Bool
  | .exc _ _ _ _, _ => true
  | .non, b => match b with
    | .non => true
    | .exc _ _ _ _ => true
    | _ => false
  | .bl a, b => match b with
    | .bl b => decide (a = b)
    | .exc _ _ _ _ => true
    | _ => false
  | .int a, b => match b with
    | .int b => decide (a = b)
    | .exc _ _ _ _ => true
    | _ => false
  | .str a, b => match b with
    | .str b => decide (a = b)
    | .exc _ _ _ _ => true
    | _ => false
  | .ty a, b => match b with
    | .ty b => decide (a = b)
    | .exc _ _ _ _ => true
    | _ => false
  | .lst a, b => match b with
    | .lst b => sames a b
    | .exc _ _ _ _ => true
    | _ => false
  | .tup a, b => match b with
    | .tup b => sames a b
    | .exc _ _ _ _ => true
    | _ => false
  | .dic a, b => match b with
    | .dic b => sameK a b
    | .exc _ _ _ _ => true
    | _ => false
  | .ins C a, b => match b with
    | .ins C' b => decide (C = C') && sameF a b
    | .exc _ _ _ _ => true
    | _ => false
  | .mem p _, b => match b with
    | .mem q _ => decide (p = q)
    | .exc _ _ _ _ => true
    | _ => false
def sames : List D → List D → Bool
  | [], b => match b with
    | [] => true
    | _ => false
  | x :: r, b => match b with
    | y :: q => same x y && sames r q
    | _ => false
def sameK : List (Key × D) → List (Key × D) → Bool
  | [], b => match b with
    | [] => true
    | _ => false
  | (k, x) :: r, b => match b with
    | (l, y) :: q => decide (k = l) && (same x y && sameK r q)
    | _ => false
def sameF : List (Str × D) → List (Str × D) → Bool
  | [], b => match b with
    | [] => true
    | _ => false
  | (k, x) :: r, b => match b with
    | (l, y) :: q => decide (k = l) && (same x y && sameF r q)
    | _ => false
end
abbrev EqF := Addr → Option FF
def noEq : EqF := fun _ => none
def eqFc (C : Addr) (F : FF) (r : EqF) : EqF := fun C' => if C' = C then some F else r C'
def FR.eqv : FR → Option Bool
  | .rt (.bl r) [] => some r
  | .ro (.bl r) [] => some r
  | _ => none
/-- the own == asked; an answer False of data that may stand at one place is none -/
def ownEq (fe : EqF) (C : Addr) (a b : D) : Option Bool := (fe C).bind fun F => (F [.fz a, .fz b]).eqv.bind fun r => if r = true ∨ same a b = false then some r else none
def allE (f : D → D → Option Bool) : List D → List D → Option Bool
  | [], [] => some true
  | x :: xs, y :: ys => match f x y with
    | some true => allE f xs ys
    | some false => some false
    | none => none
  | _, _ => none
def eqPl (a b : D) : Option Bool := if plain 64 a = true ∧ plain 64 b = true then some (PyData.eqv (py a) (py b)) else none
def allK : List (Key × D) → List (Key × D) → Option Bool
  | [], _ => some true
  | (k, x) :: r, ls => match valD ls k with
    | none => some false
    | some y => (eqPl x y).bind fun e => (allK r ls).map (e && ·)
def eqA (fe : EqF) : Nat → D → D → Option Bool
  | 0, _, _ => none
  | n + 1, a, b => match eqPl a b with
    | some r => some r
    | none => match a, b with
      | .lst xs, .lst ys => if xs.length = ys.length then allE (eqA fe n) xs ys else some false
      | .tup xs, .tup ys => if xs.length = ys.length then allE (eqA fe n) xs ys else none
      | .dic ks, .dic ls => if ks.length = ls.length then (allK ks ls).bind fun r => if r = true ∨ same a b = false then some r else none else some false
      | .ins C _, .ins C' _ => if (fe C').isSome = true then ownEq fe C a b else none
      | .ins C _, .non => ownEq fe C a b
      | .ins C _, .bl _ => ownEq fe C a b
      | .ins C _, .int _ => ownEq fe C a b
      | .ins C _, .str _ => ownEq fe C a b
      | .ins C _, .lst _ => ownEq fe C a b
      | .ins C _, .tup _ => ownEq fe C a b
      | .ins C _, .dic _ => ownEq fe C a b
      | _, _ => none
def eqX (fe : EqF) : D → D → Option D
  | .str i, .str j => some (.bl (decide (i = j)))
  | a, b => (eqA fe 6 a b).map .bl
def neX (fe : EqF) : D → D → Option D
  | .str i, .str j => some (.bl (!decide (i = j)))
  | a, b => (eqA fe 6 a b).map fun r => .bl (!r)
def inB : D → D → Option Bool
  | a, .lst ds => if flatD a = true ∧ ds.all flatD = true then some (inD a ds) else none
  | a, .tup ds => if flatD a = true ∧ ds.all flatD = true then some (inD a ds) else none
  | .str x, .str z => match x.cps.toList with
    | [c] => some (decide (c ∈ z.cps.toList))
    | _ => none
  | a, .dic kvs => (kD a).map fun k => (valD kvs k).isSome
  | _, _ => none
def inF (a b : D) : Option D := (inB a b).map .bl
def notInF (a b : D) : Option D := (inB a b).map fun c => .bl (!c)
def itemD : D → D → Option D
  | .lst ds, .int i => L2.atI ds i
  | .tup ds, .int i => L2.atI ds i
  | .str z, .int i => if z.length ≤ sizeLine then (L2.atI z.cps.toList i).map fun c => .str ⟨#[c]⟩ else none
  | .dic kvs, k => (kD k).bind (valD kvs)
  | _, _ => none
def sliceD : D → Option Int → Option Int → Option D
  | .lst ds, lo, hi => some (.lst (cutD ds lo hi))
  | .tup ds, lo, hi => some (.tup (cutD ds lo hi))
  | .str z, lo, hi => if z.length ≤ sizeLine then some (.str (cutS z lo hi)) else none
  | _, _, _ => none
/-! built-ins -/
def lenD : List D → Option D
  | [.lst xs] => some (.int xs.length)
  | [.tup xs] => some (.int xs.length)
  | [.str z] => if z.length ≤ sizeLine then some (.int z.length) else none
  | _ => none
def intD : List D → Option D
  | [.int i] => some (.int i)
  | [.bl b] => some (.int (if b then 1 else 0))
  | _ => none
def i1D (f : Int → Int) : List D → Option D
  | [.int i] => some (.int (f i))
  | _ => none
def i2D (f : Int → Int → Int) : List D → Option D
  | [.int i, .int j] => some (.int (f i j))
  | _ => none
def anyF : List D → Option D
  | [.lst ds] => (blsOf ds).map fun bs => .bl (bs.any id)
  | _ => none
def allF : List D → Option D
  | [.lst ds] => (blsOf ds).map fun bs => .bl (bs.all id)
  | _ => none
def sumF : List D → Option D
  | [.lst ds] => (intsOf ds).map fun ns => .int ns.sum
  | _ => none
def reprF : List D → Option D
  | [a] => if plain 64 a = true ∧ okR a = true ∧ wR a ≤ 16777216 then some (.str (shw a)) else none
  | _ => none
def listF : List D → Option D
  | [.lst xs] => some (.lst xs)
  | [.tup xs] => some (.lst xs)
  | _ => none
def tupleF : List D → Option D
  | [.lst xs] => some (.tup xs)
  | [.tup xs] => some (.tup xs)
  | _ => none
def sortF : List D → Option D
  | [.lst ds] => (strsOf ds).bind fun ys => if ys.length ≤ sizeLine then some (.lst ((srtS ys).map D.str)) else none
  | _ => none
def srtSetF : D → Option D
  | .lst ds => (strsOf ds).bind fun ys => if ys.length < scanBound then some (.lst ((srtS (DT.met ys)).map D.str)) else none
  | _ => none
/-! ### expressions -/
def fVar (i : Nat) : FE := fun ρ => ob (slotD ρ[i]?) fun _ => .ok (.sl i) ρ
def fC (d : D) : FE := fun ρ => .ok (.val d) ρ
def fBin (g : D → D → Option D) (fa fb : FE) : FE := fun ρ => (fa ρ).bind fun r1 ρ1 => (fb ρ1).bind fun r2 ρ2 => ob (r1.get ρ2) fun d1 => ob (r2.get ρ2) fun d2 => ob (g d1 d2) fun d => .ok (.val d) ρ2
def fBinO (g : D → D → Option D) (fa fb : FE) : FW := fun ρ => (fa ρ).bind fun r1 ρ1 => (fb ρ1).bind fun r2 ρ2 => ob (r1.get ρ2) fun d1 => ob (r2.get ρ2) fun d2 => ob (g d1 d2) fun d => .ok d ρ2
def fNeg (fa : FE) : FE := fun ρ => (fa ρ).bind fun r ρ1 => ob (r.get ρ1) fun d => match d with
  | .int i => .ok (.val (.int (-i))) ρ1
  | _ => .no
def fTst (fa : FE) : FT := fun ρ => (fa ρ).bind fun r ρ1 => ob (r.get ρ1) fun d => match d with
  | .bl b => .ok b ρ1
  | _ => .no
def fAndT (fa fb : FT) : FT := fun ρ => (fa ρ).bind fun c ρ1 => if c = true then fb ρ1 else .ok false ρ1
def fOrT (fa fb : FT) : FT := fun ρ => (fa ρ).bind fun c ρ1 => if c = true then .ok true ρ1 else fb ρ1
def fNotT (fa : FT) : FT := fun ρ => (fa ρ).bind fun c ρ1 => .ok (!c) ρ1
def fBl (d : D) (k : Bool → R β) : R β := match d with
  | .bl b => k b
  | _ => .no
def fAnd (fa fb : FE) : FE := fun ρ => (fa ρ).bind fun r ρ1 => ob (r.get ρ1) fun d => fBl d fun c => if c = true then fb ρ1 else .ok (.val (.bl false)) ρ1
def fOr (fa fb : FE) : FE := fun ρ => (fa ρ).bind fun r ρ1 => ob (r.get ρ1) fun d => fBl d fun c => if c = true then .ok (.val (.bl true)) ρ1 else fb ρ1
def fNot (fa : FE) : FE := fun ρ => (fa ρ).bind fun r ρ1 => ob (r.get ρ1) fun d => fBl d fun c => .ok (.val (.bl (!c))) ρ1
def fIfE (t : FT) (fa fb : FE) : FE := fun ρ => (t ρ).bind fun c ρ1 => if c = true then fa ρ1 else fb ρ1
/-- two comparisons in a row -/
def fChain (g g' : D → D → Option D) (fa fb fc : FE) : FE := fun ρ => (fa ρ).bind fun r1 ρ1 => (fb ρ1).bind fun r2 ρ2 => ob (r1.get ρ2) fun d1 => ob (r2.get ρ2) fun d2 => ob (g d1 d2) fun d => fBl d fun c =>
  if c = true then (fc ρ2).bind fun r3 ρ3 => ob (r2.get ρ3) fun d2 => ob (r3.get ρ3) fun d3 => ob (g' d2 d3) fun d => .ok (.val d) ρ3 else .ok (.val (.bl false)) ρ2
def fNil : FA := fun ρ => .ok [] ρ
def fCons (fa : FE) (fr : FA) : FA := fun ρ => (fa ρ).bind fun r ρ1 => (fr ρ1).bind fun rs ρ2 => .ok (r :: rs) ρ2
def fOO (fo : FW) : FE := fun ρ => (fo ρ).bind fun d ρ1 => .ok (.val d) ρ1
def fLst (fa : FA) : FW := fun ρ => (fa ρ).bind fun rs ρ1 => ob (escs ρ1 rs) fun p => if p.1.length ≤ 1000 then .ok (.lst p.1) p.2 else .no
def fTup (fa : FA) : FE := fun ρ => (fa ρ).bind fun rs ρ1 => ob (escs ρ1 rs) fun p => if p.1.length ≤ 1000 then .ok (.val (.tup p.1)) p.2 else .no
def fCa (g : List D → Option D) (fa : FA) : FE := fun ρ => (fa ρ).bind fun rs ρ1 => ob (gets ρ1 rs) fun ds => ob (g ds) fun d => .ok (.val d) ρ1
def fCaO (g : List D → Option D) (fa : FA) : FW := fun ρ => (fa ρ).bind fun rs ρ1 => ob (gets ρ1 rs) fun ds => ob (g ds) fun d => .ok d ρ1
def fSrtSet (fa : FE) : FW := fun ρ => (fa ρ).bind fun r ρ1 => ob (r.get ρ1) fun d => ob (srtSetF d) fun d => .ok d ρ1
def fJoin (fo fe : FE) : FE := fun ρ => (fo ρ).bind fun r ρ1 => ob (r.get ρ1) fun d => match d with
  | .str a => (fe ρ1).bind fun r2 ρ2 => ob (r2.get ρ2) fun d => match d with
    | .lst ds => ob (strsOf ds) fun ys => if (ys.map (·.length)).sum + ys.length * a.length ≤ 16777216 then .ok (.val (.str (Txt.join a ys))) ρ2 else .no
    | _ => .no
  | _ => .no
def fPN : FP := fun ρ => .ok none ρ
def fPS (fa : FE) : FP := fun ρ => (fa ρ).bind fun r ρ1 => ob (r.get ρ1) fun d => match d with
  | .int i => .ok (some i) ρ1
  | _ => .no
def fSl (fa : FE) (fl fh : FP) : FE := fun ρ => (fa ρ).bind fun r ρ1 => (fl ρ1).bind fun lo ρ2 => (fh ρ2).bind fun hi ρ3 => ob (r.get ρ3) fun d => ob (sliceD d lo hi) fun d => .ok (.val d) ρ3
/-- a field of an instance of one of the classes -/
def fldOf (Cs : List Addr) (f : Str) : D → Option D
  | .ins C fs => if C ∈ Cs then fs.lookup f else none
  | _ => none
def fFld (Cs : List Addr) (f : Str) (fa : FE) : FE := fun ρ => (fa ρ).bind fun r ρ1 => ob (r.get ρ1) fun d => ob (fldOf Cs f d) fun d => .ok (.val d) ρ1
/-- isinstance -/
def isiD (g : D → Option Bool) (fa : FE) : FE := fun ρ => (fa ρ).bind fun r ρ1 => ob (r.get ρ1) fun d => ob (g d) fun b => .ok (.val (.bl b)) ρ1
def isOwn (C : Addr) (no : List Addr) : D → Option Bool
  | .ins C' _ => if C' = C then some true else if C' ∈ no then some false else none
  | .ty _ => none
  | .exc _ _ _ _ => none
  | .mem _ _ => none
  | _ => some false
def isTy (T : String) (no : List Addr) : D → Option Bool
  | .ins C' _ => if C' ∈ no then some false else none
  | .ty _ => none
  | .exc _ _ _ _ => none
  | .mem _ _ => none
  | .non => some (decide (T = "NoneType"))
  | .bl _ => some (decide (T = "bool" ∨ T = "int"))
  | .int _ => some (decide (T = "int"))
  | .str _ => some (decide (T = "str"))
  | .lst _ => some (decide (T = "list"))
  | .tup _ => some (decide (T = "tuple"))
  | .dic _ => some (decide (T = "dict"))
/-! ### calls -/
def callR (F : FF) (ms : List Bool) (rs : List Rf) (ρ : DEnv) (k : D → DEnv → R β) : R β := ob (hand ms ρ rs) fun p => match F p.1 with
  | .rt d ns => ob (giveBack p.2.1 p.2.2 ns) fun ρ3 => k d ρ3
  | .ro d ns => ob (giveBack p.2.1 p.2.2 ns) fun ρ3 => k d ρ3
  | .ex C d ns => ob (giveBack p.2.1 p.2.2 ns) fun ρ3 => .ex C d ρ3
  | .no => .no
def callO (F : FF) (ms : List Bool) (rs : List Rf) (ρ : DEnv) : R D := ob (hand ms ρ rs) fun p => match F p.1 with
  | .ro d ns => ob (giveBack p.2.1 p.2.2 ns) fun ρ3 => .ok d ρ3
  | .ex C d ns => ob (giveBack p.2.1 p.2.2 ns) fun ρ3 => .ex C d ρ3
  | _ => .no
def fCall (F : FF) (ms : List Bool) (fa : FA) : FE := fun ρ => (fa ρ).bind fun rs ρ1 => callR F ms rs ρ1 fun d ρ3 => .ok (.val d) ρ3
def fCallO (F : FF) (ms : List Bool) (fa : FA) : FW := fun ρ => (fa ρ).bind fun rs ρ1 => callO F ms rs ρ1
def insOf (C : Addr) (m : Str) : D → Bool
  | .ins C' fs => decide (C' = C ∧ fs.lookup m = none)
  | _ => false
def fMeth (C : Addr) (m : Str) (F : FF) (ms : List Bool) (fo : FE) (fa : FA) : FE := fun ρ => (fo ρ).bind fun r0 ρ1 => ob (r0.get ρ1) fun d => if insOf C m d = true then (fa ρ1).bind fun rs ρ2 => callR F ms (r0 :: rs) ρ2 fun d ρ3 => .ok (.val d) ρ3 else .no
def fMethO (C : Addr) (m : Str) (F : FF) (ms : List Bool) (fo : FE) (fa : FA) : FW := fun ρ => (fo ρ).bind fun r0 ρ1 => ob (r0.get ρ1) fun d => if insOf C m d = true then (fa ρ1).bind fun rs ρ2 => callO F ms (r0 :: rs) ρ2 else .no
/-- by keywords: the parameters' order by is -/
def fKw (F : FF) (ms : List Bool) (n nk : Nat) (is : List Nat) (fa fk : FA) : FE := fun ρ => (fa ρ).bind fun rs ρ1 => if rs.length = n then (fk ρ1).bind fun qs ρ2 => if qs.length = nk then callR F ms (pick is (rs ++ qs)) ρ2 fun d ρ3 => .ok (.val d) ρ3 else .no else .no
def fMethKw (C : Addr) (m : Str) (F : FF) (ms : List Bool) (nk : Nat) (is : List Nat) (fo : FE) (fk : FA) : FE := fun ρ => (fo ρ).bind fun r0 ρ1 => ob (r0.get ρ1) fun d => if insOf C m d = true then (fk ρ1).bind fun qs ρ2 => if qs.length = nk then callR F ms (pick is (r0 :: qs)) ρ2 fun d ρ3 => .ok (.val d) ρ3 else .no else .no
def FR.pure : FR → Option D
  | .rt d [] => some d
  | .ro d [] => some d
  | _ => none
def fProp (C : Addr) (F : FF) (fa : FE) : FE := fun ρ => (fa ρ).bind fun r ρ1 => ob (esc ρ1 r) fun p => if isC C p.1 = true then ob (F [.fz p.1]).pure fun d => .ok (.val d) p.2 else .no
/-- of an __init__: the object as it is left, or an exception -/
def FR.made : FR → R D
  | .rt .non [d] => .ok d []
  | .ex C d _ => .ex C d []
  | _ => .no
def fMake (C : Addr) (F : FF) (fa : FA) : FW := fun ρ => (fa ρ).bind fun rs ρ1 => ob (escs ρ1 rs) fun p => match (F (.bw (.ins C []) :: p.1.map .fz)).made with
  | .ok d' _ => .ok d' p.2
  | .ex c d _ => .ex c d p.2
  | .no => .no
/-- an operator: of plain data, or the left one's def, or the right one's reflected one -/
def fOwn (g : D → D → Option D) (C : Addr) (FL FR : FF) (fa fb : FE) : FE := fun ρ => (fa ρ).bind fun r1 ρ1 => (fb ρ1).bind fun r2 ρ2 => ob (r1.get ρ2) fun d1 => ob (r2.get ρ2) fun d2 =>
  if isC C d1 = true then (if (isC C d2 || isI d2) = true then callR FL [false, false] [r1, r2] ρ2 fun d ρ3 => .ok (.val d) ρ3 else .no)
  else if isC C d2 = true then (if isI d1 = true then callR FR [false, false] [r2, r1] ρ2 fun d ρ3 => .ok (.val d) ρ3 else .no)
  else ob (g d1 d2) fun d => .ok (.val d) ρ2
def fInv (C : Addr) (F : FF) (fa : FE) : FE := fun ρ => (fa ρ).bind fun r ρ1 => ob (r.get ρ1) fun d => if isC C d = true then callR F [false] [r] ρ1 fun d ρ3 => .ok (.val d) ρ3 else .no
def noF : FF := fun _ => .no
/-! dict displays -/
def fPairs : List (FE × FE) → F1 (List (Rf × Rf))
  | [] => fun ρ => .ok [] ρ
  | (a, b) :: r => fun ρ => (a ρ).bind fun x ρ1 => (b ρ1).bind fun y ρ2 => (fPairs r ρ2).bind fun ps ρ3 => .ok ((x, y) :: ps) ρ3
def fDict0 : FW := fun ρ => .ok (.dic []) ρ
def fDict (ms : List (FE × FE)) : FW := fun ρ => (fPairs ms ρ).bnd fun ps ρ1 => ob (keysD ρ1 (ps.map Prod.fst)) fun ks => ob (escs ρ1 (ps.map Prod.snd)) fun p => if ps.length ≤ 15 then .ok (.dic (mergeKD [] (ks.zip p.1))) p.2 else .no
/-! ### iterables, targets, comprehensions -/
def itemsD : D → Option (List D)
  | .lst ds => some ds
  | .tup ds => some ds
  | .str z => some (signs z)
  | _ => none
def fIter (fa : FE) : FI := fun ρ => (fa ρ).bind fun r ρ1 => ob (esc ρ1 r) fun p => ob (itemsD p.1) fun ds => .ok ds p.2
def fRng1 (fa : FA) : FI := fun ρ => (fa ρ).bind fun rs ρ1 => ob (gets ρ1 rs) fun ds => match ds with
  | [.int j] => if -(2 ^ 62) ≤ j ∧ j < 2 ^ 62 then .ok (rngD 0 j.toNat) ρ1 else .no
  | _ => .no
def fRng2 (fa : FA) : FI := fun ρ => (fa ρ).bind fun rs ρ1 => ob (gets ρ1 rs) fun ds => match ds with
  | [.int i, .int j] => if -(2 ^ 62) ≤ i ∧ i < 2 ^ 62 ∧ -(2 ^ 62) ≤ j ∧ j < 2 ^ 62 then .ok (rngD i (j - i).toNat) ρ1 else .no
  | _ => .no
def fEnum (fa : FA) : FI := fun ρ => (fa ρ).bind fun rs ρ1 => match rs with
  | [r] => ob (esc ρ1 r) fun p => match p.1 with
    | .lst ds => .ok (ds.zipIdx.map fun q => .tup [.int q.2, q.1]) p.2
    | _ => .no
  | _ => .no
def fZip (fa : FA) : FI := fun ρ => (fa ρ).bind fun rs ρ1 => match rs with
  | [r1, r2] => ob (esc ρ1 r1) fun p => ob (esc p.2 r2) fun q => match p.1, q.1 with
    | .lst xs, .lst ys => .ok ((xs.zip ys).map fun q => .tup [q.1, q.2]) q.2
    | _, _ => .no
  | _ => .no
def gS1 (i : Nat) : FG := fun d ρ => some (ρ.set i (some (.fz d)))
def gN0 : FGs := fun ds ρ => match ds with
  | [] => some ρ
  | _ => none
def gC1 (g : FG) (h : FGs) : FGs := fun ds ρ => match ds with
  | d :: r => (g d ρ).bind fun ρ1 => h r ρ1
  | _ => none
def gT1 (n : Nat) (h : FGs) : FG := fun d ρ => match d with
  | .tup ds => if ds.length = n then h ds ρ else none
  | _ => none
def lcL (vs : List Nat) (g : FG) (t : FT) (m : FE) : List D → List D → F1 D
  | [], acc, ρ => .ok (.lst acc) ρ
  | d :: r, acc, ρ => ob (g d (wipeD ρ vs)) fun ρ1 => (t ρ1).bnd fun c ρ2 => if c = true then (m ρ2).bnd fun rf ρ3 => ob (esc ρ3 rf) fun p => if acc.length < sizeLine then lcL vs g t m r (acc ++ [p.1]) (backD ρ p.2 vs) else .no
    else lcL vs g t m r acc (backD ρ ρ2 vs)
def fLc (fi : FI) (vs : List Nat) (g : FG) (t : FT) (m : FE) : FW := fun ρ => (fi ρ).bind fun ds ρ1 => lcL vs g t m ds [] ρ1
def fYes : FT := fun ρ => .ok true ρ
/-! ### statements -/
def fSkip : FS := fun ρ => .nx ρ
def fBrk : FS := fun ρ => .bk ρ
def fCnt : FS := fun ρ => .ct ρ
def fNever : FS := fun _ => .no
def fSeq (f g : FS) : FS := fun ρ => (f ρ).seq g
def fIf (t : FT) (f g : FS) : FS := fun ρ => (t ρ).z fun c ρ1 => if c = true then f ρ1 else g ρ1
def fDrop (fa : FE) : FS := fun ρ => (fa ρ).z fun _ ρ1 => .nx ρ1
def fRet (fa : FE) : FS := fun ρ => (fa ρ).z fun r ρ1 => oz (esc ρ1 r) fun p => .rt p.1 p.2
def fRetN : FS := fun ρ => .rt .non ρ
def fRetO (fo : FW) : FS := fun ρ => (fo ρ).z fun d ρ1 => .ro d ρ1
/-- return x -/
def fRetV (i : Nat) : FS := fun ρ => match ρ[i]? with
  | some (some (.ow d)) => .ro d ρ
  | some (some (.fz d)) => .rt d ρ
  | _ => .no
def fSet (fa : FE) (g : FG) : FS := fun ρ => (fa ρ).z fun r ρ1 => oz (esc ρ1 r) fun p => oz (g p.1 p.2) fun ρ2 => .nx ρ2
def fSetO (i : Nat) (fo : FW) : FS := fun ρ => (fo ρ).z fun d ρ1 => .nx (ρ1.set i (some (.ow d)))
def fRaise (C : Addr) (fa : FE) : FS := fun ρ => (fa ρ).z fun r ρ1 => oz (esc ρ1 r) fun p => .ex C p.1 p.2
def forL (g : FG) (b : FS) : List D → FS
  | [], ρ => .nx ρ
  | d :: r, ρ => oz (g d ρ) fun ρ1 => match b ρ1 with
    | .nx ρ2 => forL g b r ρ2
    | .ct ρ2 => forL g b r ρ2
    | .bk ρ2 => .nx ρ2
    | z => z
def fFor (fi : FI) (g : FG) (b : FS) : FS := fun ρ => (fi ρ).z fun ds ρ1 => forL g b ds ρ1
/-- at most n turns -/
def whL (t : FT) (b : FS) : Nat → FS
  | 0, _ => .no
  | n + 1, ρ => (t ρ).z fun c ρ1 => if c = true then (match b ρ1 with
    | .nx ρ2 => whL t b n ρ2
    | .ct ρ2 => whL t b n ρ2
    | .bk ρ2 => .nx ρ2
    | z => z) else .nx ρ1
def ownOf : Option (Option DV) → Option DV
  | some (some dv) => if dv.owned = true then some dv else none
  | _ => none
def lstOf : D → Option (List D)
  | .lst ds => some ds
  | _ => none
/-- self.f = e -/
def fFldS (Cs : List Addr) (i : Nat) (f : Str) (fa : FE) : FS := fun ρ => (fa ρ).z fun r ρ1 => oz (esc ρ1 r) fun p => oz (ownOf p.2[i]?) fun dv => match dv.d with
  | .ins C fs => if C ∈ Cs ∧ fs.length < 1000 then .nx (p.2.set i (some (dv.re (.ins C (putD f p.1 fs))))) else .no
  | _ => .no
def putF' : D → D → D → Option D
  | .lst ds, .int k, v => (ixN ds.length k).map fun j => .lst (ds.set j v)
  | .dic kvs, i, v => (kD i).bind fun k => if kvs.length < sizeLine then some (.dic (putKD kvs k v)) else none
  | _, _, _ => none
/-- x[e] = v -/
def fPut (i : Nat) (fk fv : FE) : FS := fun ρ => (fv ρ).z fun rv ρ1 => oz (esc ρ1 rv) fun p => oz (ownOf p.2[i]?) fun _ => (fk p.2).z fun rk ρ3 => oz (rk.get ρ3) fun k => oz (ownOf ρ3[i]?) fun dv => oz (putF' dv.d k p.1) fun o => .nx (ρ3.set i (some (dv.re o)))
/-- x.append(e) -/
def fApp (i : Nat) (fa : FE) : FS := fun ρ => oz (ownOf ρ[i]?) fun dv => oz (lstOf dv.d) fun _ => (fa ρ).z fun r ρ1 => oz (esc ρ1 r) fun p => oz (ownOf p.2[i]?) fun dv => oz (lstOf dv.d) fun ds =>
  if ds.length < sizeLine then .nx (p.2.set i (some (dv.re (.lst (ds ++ [p.1]))))) else .no
/-- a, b, .. = x, y, .. -/
def parSet : List Nat → List D → DEnv → Option DEnv
  | [], [], ρ => some ρ
  | i :: is, d :: ds, ρ => parSet is ds (ρ.set i (some (.fz d)))
  | _, _, _ => none
def fPar (is : List Nat) (fa : FA) : FS := fun ρ => (fa ρ).z fun rs ρ1 => oz (escs ρ1 rs) fun p => oz (parSet is p.1 p.2) fun ρ2 => .nx ρ2
/-- try: the clauses 'except X as e: y = ..', e at slot i, y at slot j -/
def tryL (i j : Nat) : List ((Addr → Option Bool) × (Addr → D → D)) → Addr → D → FS
  | [], C, d, ρ => .ex C d ρ
  | (t, h) :: r, C, d, ρ => match t C with
    | some true => .nx ((ρ.set i none).set j (some (.fz (h C d))))
    | some false => tryL i j r C d ρ
    | none => .no
def fTry (fb : FS) (i j : Nat) (cls : List ((Addr → Option Bool) × (Addr → D → D))) : FS := fun ρ => match fb ρ with
  | .ex C d ρ1 => if i < ρ1.length then tryL i j cls C d ρ1 else .no
  | z => z
/-- what is known of an exception's class: those that are told true, those that are told false -/
def inCls (yes no : List Addr) (C : Addr) : Option Bool := if C ∈ yes then some true else if C ∈ no then some false else none
def blOf (o : Option Bool) : D := match o with
  | some b => .bl b
  | none => .non
/-! a, b = (x, []): some items are fresh -/
/-- what a row of items comes to: a value, or a fresh object (its data) -/
abbrev Mx := Rf ⊕ D
abbrev FM := F1 (List Mx)
def fmNil : FM := fun ρ => .ok [] ρ
def fmE (fa : FE) (fr : FM) : FM := fun ρ => (fa ρ).bind fun r ρ1 => (fr ρ1).bind fun rs ρ2 => .ok (.inl r :: rs) ρ2
def fmO (fo : FW) (fr : FM) : FM := fun ρ => (fo ρ).bind fun d ρ1 => (fr ρ1).bind fun rs ρ2 => .ok (.inr d :: rs) ρ2
/-- the items as they are stored -/
def mescs (ρ : DEnv) : List Mx → Option (List DV × DEnv)
  | [] => some ([], ρ)
  | .inl r :: ms => (esc ρ r).bind fun p => (mescs p.2 ms).map fun q => (.fz p.1 :: q.1, q.2)
  | .inr d :: ms => (mescs ρ ms).map fun q => (.ow d :: q.1, q.2)
def setsM : List Nat → List DV → DEnv → DEnv
  | i :: is, dv :: dvs, ρ => setsM is dvs (ρ.set i (some dv))
  | _, _, ρ => ρ
def fParO (is : List Nat) (f : FM) : FS := fun ρ => (f ρ).z fun ms ρ1 => oz (mescs ρ1 ms) fun p => if p.1.length = is.length then .nx (setsM is p.1 p.2) else .no
/-! ### defs -/
def Z.fin (as : List DV) : Z → FR
  | .nx ρ => match newsD as ρ with
    | some ns => .rt .non ns
    | none => .no
  | .rt d ρ => match newsD as ρ with
    | some ns => .rt d ns
    | none => .no
  | .ro d ρ => match newsD as ρ with
    | some ns => .ro d ns
    | none => .no
  | .ex C d ρ => match newsD as ρ with
    | some ns => .ex C d ns
    | none => .no
  | _ => .no
/-- n parameters, m further names -/
def runF (n m : Nat) (b : FS) : FF := fun as => if as.length = n then (b (as.map some ++ List.replicate m none)).fin as else .no
end
end DL
/-! FL2: .. and why they tell what the text does. -/
namespace DL
open PySem L2 PySem.Spec PyProof.Rows
open D (blsOf strsOf intsOf)
section
variable {α β : Type} {EX : DX} {P Q : α → DEnv → Prop}
def R.sem (EX : DX) (x : R α) (P : α → DEnv → Prop) : Prop := match x with
  | .ok a ρ => P a ρ
  | .ex C d ρ => EX C d ρ
  | .no => False
def Z.sem (EX : DX) (z : Z) (K : DEnds) : Prop := match z with
  | .nx ρ => K.nx ρ
  | .rt d ρ => K.rt d ρ
  | .ro d ρ => K.ro d ρ
  | .bk ρ => K.bk ρ
  | .ct ρ => K.ct ρ
  | .ex C d ρ => EX C d ρ
  | .no => False
theorem sem_bind {x : R α} {k : α → DEnv → R β} {P : β → DEnv → Prop} : (x.bind k).sem EX P ↔ x.sem EX fun a ρ => (k a ρ).sem EX P := by cases x <;> exact Iff.rfl
theorem sem_bnd {x : R α} {k : α → DEnv → R β} {P : β → DEnv → Prop} (h : (x.bnd k).sem EX P) {EX' : DX} : x.sem EX' fun a ρ => (k a ρ).sem EX P := by cases x <;> first | exact h | exact h.elim
theorem sem_z {x : R α} {k : α → DEnv → Z} {K : DEnds} : (x.z k).sem EX K ↔ x.sem EX fun a ρ => (k a ρ).sem EX K := by cases x <;> exact Iff.rfl
theorem sem_ob {o : Option α} {k : α → R β} {P : β → DEnv → Prop} : (ob o k).sem EX P ↔ ∃ a, o = some a ∧ (k a).sem EX P := by
  cases o with
  | none => exact ⟨fun h => h.elim, fun ⟨_, e, _⟩ => by cases e⟩
  | some a => exact ⟨fun h => ⟨a, rfl, h⟩, fun ⟨_, e, h⟩ => by cases e; exact h⟩
theorem sem_oz {o : Option α} {k : α → Z} {K : DEnds} : (oz o k).sem EX K ↔ ∃ a, o = some a ∧ (k a).sem EX K := by
  cases o with
  | none => exact ⟨fun h => h.elim, fun ⟨_, e, _⟩ => by cases e⟩
  | some a => exact ⟨fun h => ⟨a, rfl, h⟩, fun ⟨_, e, h⟩ => by cases e; exact h⟩
theorem sem_mono {x : R α} (h : x.sem EX P) (f : ∀ a ρ, P a ρ → Q a ρ) : x.sem EX Q := by cases x <;> first | exact f _ _ h | exact h
theorem sem_seq {z : Z} {f : FS} {K : DEnds} : (z.seq f).sem EX K ↔ z.sem EX { K with nx := fun ρ => (f ρ).sem EX K } := by cases z <;> exact Iff.rfl
theorem sem_if {c : Prop} [Decidable c] {x y : R α} : (if c then x else y).sem EX P ↔ if c then x.sem EX P else y.sem EX P := by split <;> exact Iff.rfl
theorem sem_iz {c : Prop} [Decidable c] {x y : Z} {K : DEnds} : (if c then x else y).sem EX K ↔ if c then x.sem EX K else y.sem EX K := by split <;> exact Iff.rfl
theorem sem_ifno {c : Prop} [Decidable c] {x : R α} : (if c then x else .no).sem EX P ↔ c ∧ x.sem EX P := by
  split
  · exact ⟨fun h => ⟨by assumption, h⟩, fun h => h.2⟩
  · exact ⟨fun h => h.elim, fun h => absurd h.1 (by assumption)⟩
theorem sem_izno {c : Prop} [Decidable c] {x : Z} {K : DEnds} : (if c then x else .no).sem EX K ↔ c ∧ x.sem EX K := by
  split
  · exact ⟨fun h => ⟨by assumption, h⟩, fun h => h.2⟩
  · exact ⟨fun h => h.elim, fun h => absurd h.1 (by assumption)⟩
theorem fBl_sem {d : D} {k : Bool → R α} : (fBl d k).sem EX P ↔ ∃ c, d = .bl c ∧ (k c).sem EX P := by
  cases d with
  | bl c => exact ⟨fun h => ⟨c, rfl, h⟩, fun ⟨_, e, h⟩ => by cases e; exact h⟩
  | _ => exact ⟨fun h => h.elim, fun ⟨_, e, _⟩ => by cases e⟩
def lif (EX : DX) (f : F1 α) : DEnv → (α → DEnv → Prop) → Prop := fun ρ P => (f ρ).sem EX P
def lifS (EX : DX) (f : FS) : MS := fun K ρ => (f ρ).sem EX K
def lifI (EX : DX) (f : FI) : MI := fun ρ P => (f ρ).sem EX fun ds ρ1 => P (fun _ => True) ds ρ1
def lifG (g : FG) : MG := fun d ρ Q => ∃ ρ', g d ρ = some ρ' ∧ Q ρ'
def lifGs (g : FGs) : MGs := fun d ρ Q => ∃ ρ', g d ρ = some ρ' ∧ Q ρ'
end
/-- a def's promise -/
def fnS (F : FF) : DSp := fun as k => match F as with
  | .rt d ns => k.rt d ns
  | .ro d ns => k.ro d ns
  | .ex C d ns => k.ex C d ns
  | .no => False
/-- of one that lets no exception out -/
def fnN (F : FF) : DSp := fun as k => match F as with
  | .rt d ns => k.rt d ns
  | .ro d ns => k.ro d ns
  | _ => False
/-- what is wished of exceptions can be had -/
structure Th (X : Cx) (E : En) (EX : DX) : Prop where
  w : ∃ W, Takes X W ∧ Lk E EX W
  po : PassesOwn (model X.prog X.w) X.A X.env X.xe
theorem Th.no {X : Cx} {E : En} (h : PassesOwn (model X.prog X.w) X.A X.env X.xe) : Th X E noX := ⟨⟨_, takes0, Lk.none⟩, h⟩
section
variable {X : Cx} {E : En} {e : Expr} {es : List Expr} {st : Stmt} {sts : List Stmt} {o : Option Expr} {tg : Expr}
theorem DE.mono {m m' : ME} (h : DE X E e m) (f : ∀ ρ P, m' ρ P → m ρ P) : DE X E e m' := PE.to h fun σ H Q ⟨F, ρ, P, S, hm, k⟩ => ⟨F, ρ, P, S, f _ _ hm, k⟩
theorem DO.mono {m m' : MO} (h : DO X E e m) (f : ∀ ρ P, m' ρ P → m ρ P) : DO X E e m' := PE.to h fun σ H Q ⟨F, ρ, P, S, hm, k⟩ => ⟨F, ρ, P, S, f _ _ hm, k⟩
theorem DT.mono {m m' : MT} (h : DT X E e m) (f : ∀ ρ P, m' ρ P → m ρ P) : DT X E e m' := PT.to h fun σ H Q ⟨F, ρ, P, S, hm, k⟩ => ⟨F, ρ, P, S, f _ _ hm, k⟩
theorem DW.mono {m m' : MT} (h : DW X E e m) (f : ∀ ρ P, m' ρ P → m ρ P) : DW X E e m' := PW.to h fun σ H Q ⟨F, ρ, P, S, hm, k⟩ => ⟨F, ρ, P, S, f _ _ hm, k⟩
theorem DA.mono {m m' : MA} (h : DA X E es m) (f : ∀ ρ P, m' ρ P → m ρ P) : DA X E es m' := PA.to h fun σ H Q ⟨F, ρ, P, S, hm, k⟩ => ⟨F, ρ, P, S, f _ _ hm, k⟩
theorem DKw.mono {kws : List Keyword} {m m' : MA} (h : DKw X E kws m) (f : ∀ ρ P, m' ρ P → m ρ P) : DKw X E kws m' := PK.to h fun σ H Q ⟨F, ρ, P, S, hm, k⟩ => ⟨F, ρ, P, S, f _ _ hm, k⟩
theorem DP.mono {m m' : MP} (h : DP X E o m) (f : ∀ ρ P, m' ρ P → m ρ P) : DP X E o m' := PO.to h fun σ H Q ⟨F, ρ, P, S, hm, k⟩ => ⟨F, ρ, P, S, f _ _ hm, k⟩
theorem DI.mono {m m' : MI} (h : DI X E tg e m) (f : ∀ ρ P, m' ρ P → m ρ P) : DI X E tg e m' := PI.to h fun σ H Q ⟨F, ρ, P, S, hm, k⟩ => ⟨F, ρ, P, S, f _ _ hm, k⟩
theorem DS.mono {m m' : MS} (h : DS X E st m) (f : ∀ K ρ, m' K ρ → m K ρ) : DS X E st m' := PS.to h fun Q σ H ⟨F, ρ, P, S, hm, k⟩ => ⟨F, ρ, P, S, f _ _ hm, k⟩
theorem DSs.mono {m m' : MS} (h : DSs X E sts m) (f : ∀ K ρ, m' K ρ → m K ρ) : DSs X E sts m' := PSs.to h fun Q σ H ⟨F, ρ, P, S, hm, k⟩ => ⟨F, ρ, P, S, f _ _ hm, k⟩
theorem DG.mono {m m' : MG} (h : DG X E tg m) (f : ∀ d ρ Q, m' d ρ Q → m d ρ Q) : DG X E tg m' := PG.to h fun v σ H Q ⟨F, ρ, d, P, S, r, hm, k⟩ => ⟨F, ρ, d, P, S, r, f _ _ _ hm, k⟩
theorem DGs.mono {m m' : MGs} (h : DGs X E es m) (f : ∀ d ρ Q, m' d ρ Q → m d ρ Q) : DGs X E es m' := PGs.to h fun v σ H Q ⟨F, ρ, d, P, S, r, hm, k⟩ => ⟨F, ρ, d, P, S, r, f _ _ _ hm, k⟩
theorem DE.or {m m' : ME} (h : DE X E e m) (h' : DE X E e m') : DE X E e (fun ρ P => m ρ P ∨ m' ρ P) := ⟨fun pins s σ H Q I ⟨F, ρ, P, S, hm, k⟩ => hm.elim (fun hm => h.run pins s σ H Q I ⟨F, ρ, P, S, hm, k⟩) fun hm => h'.run pins s σ H Q I ⟨F, ρ, P, S, hm, k⟩⟩
theorem DT.or {m m' : MT} (h : DT X E e m) (h' : DT X E e m') : DT X E e (fun ρ P => m ρ P ∨ m' ρ P) := ⟨fun pins s σ H Q I ⟨F, ρ, P, S, hm, k⟩ => hm.elim (fun hm => h.run pins s σ H Q I ⟨F, ρ, P, S, hm, k⟩) fun hm => h'.run pins s σ H Q I ⟨F, ρ, P, S, hm, k⟩⟩
theorem DS.or {m m' : MS} (h : DS X E st m) (h' : DS X E st m') : DS X E st (fun K ρ => m K ρ ∨ m' K ρ) := ⟨fun pins s σ H Q I ⟨F, ρ, P, S, hm, k⟩ => hm.elim (fun hm => h.run pins s σ H Q I ⟨F, ρ, P, S, hm, k⟩) fun hm => h'.run pins s σ H Q I ⟨F, ρ, P, S, hm, k⟩⟩
end
section
variable {X : Cx} {E : En} {EX : DX} {e a b c o : Expr} {es : List Expr} {pos apos p p2 : Pos} {fa fb fc fe : FE} {fr fas fks : FA} {fo : FW} {ft fu : FT} {fi : FI} {x : Str}
abbrev XE (X : Cx) (E : En) (EX : DX) (e : Expr) (f : FE) : Prop := DE X E e (lif EX f)
abbrev XO (X : Cx) (E : En) (EX : DX) (e : Expr) (f : FW) : Prop := DO X E e (lif EX f)
abbrev XT (X : Cx) (E : En) (EX : DX) (e : Expr) (f : FT) : Prop := DT X E e (lif EX f)
abbrev XA (X : Cx) (E : En) (EX : DX) (e : List Expr) (f : FA) : Prop := DA X E e (lif EX f)
abbrev XS (X : Cx) (E : En) (EX : DX) (e : Stmt) (f : FS) : Prop := DS X E e (lifS EX f)
abbrev XSs (X : Cx) (E : En) (EX : DX) (e : List Stmt) (f : FS) : Prop := DSs X E e (lifS EX f)
abbrev XI (X : Cx) (E : En) (EX : DX) (tg e : Expr) (f : FI) : Prop := DI X E tg e (lifI EX f)
abbrev XG (X : Cx) (E : En) (tg : Expr) (f : FG) : Prop := DG X E tg (lifG f)
abbrev XGs (X : Cx) (E : En) (tg : List Expr) (f : FGs) : Prop := DGs X E tg (lifGs f)
abbrev XP (X : Cx) (E : En) (EX : DX) (e : Option Expr) (f : FP) : Prop := DP X E e (lif EX f)
abbrev XK' (X : Cx) (E : En) (EX : DX) (e : List Keyword) (f : FA) : Prop := DKw X E e (lif EX f)
/-! atoms -/
theorem xvar {i : Nat} {x : Str} (h : PE X (.Name x pos) (tVar i)) : XE X E EX (.Name x pos) (fVar i) := (de_var h).mono fun ρ P hp => by
  obtain ⟨d, e, hp⟩ := sem_ob.mp hp
  obtain ⟨dv, e, _⟩ := slotD_some e
  exact ⟨⟨dv, e⟩, hp⟩
theorem xc {d : D} (h : DE X E e (mC d)) : XE X E EX e (fC d) := h.mono fun ρ P hp => hp
theorem xint {i : Int} {j} : XE X E EX (.Constant (.int i) j pos) (fC (.int i)) := xc de_int
theorem xbl {i : Bool} {j} : XE X E EX (.Constant (.bool i) j pos) (fC (.bl i)) := xc de_bl
theorem xnon {j} : XE X E EX (.Constant .none j pos) (fC .non) := xc de_non
theorem xstr {z : Str} {j} : XE X E EX (.Constant (.str z) j pos) (fC (.str z)) := xc de_str
theorem xgstr {u : Value} {z : Str} (hg : Gl X x) (hm : X.mg x = some u) (hu : ∃ t, u = .str z t) (hd : (x == ("__debug__" : Str)) = false := by decide) : XE X E EX (.Name x pos) (fC (.str z)) := xc (de_gstr hg hm hu hd)
/-! operators -/
theorem bin_sem {g : D → D → Option D} {G : D → D → D → Prop} (hg : ∀ a b d, g a b = some d → G a b d) {ρ : DEnv} {P : Rf → DEnv → Prop} (hp : (fBin g fa fb ρ).sem EX P) : mOp G (lif EX fa) (lif EX fb) ρ P :=
  sem_mono (sem_bind.mp hp) fun r1 ρ1 h1 => sem_mono (sem_bind.mp h1) fun r2 ρ2 h2 => by
    obtain ⟨d1, e1, h2⟩ := sem_ob.mp h2
    obtain ⟨d2, e2, h2⟩ := sem_ob.mp h2
    obtain ⟨d, e, h2⟩ := sem_ob.mp h2
    exact ⟨d1, d2, d, e1, e2, hg _ _ _ e, h2⟩
theorem binO_sem {g : D → D → Option D} {G : D → D → D → Prop} (hg : ∀ a b d, g a b = some d → G a b d) {ρ : DEnv} {P : D → DEnv → Prop} (hp : (fBinO g fa fb ρ).sem EX P) : mOpO G (lif EX fa) (lif EX fb) ρ P :=
  sem_mono (sem_bind.mp hp) fun r1 ρ1 h1 => sem_mono (sem_bind.mp h1) fun r2 ρ2 h2 => by
    obtain ⟨d1, e1, h2⟩ := sem_ob.mp h2
    obtain ⟨d2, e2, h2⟩ := sem_ob.mp h2
    obtain ⟨d, e, h2⟩ := sem_ob.mp h2
    exact ⟨d1, d2, d, e1, e2, hg _ _ _ e, h2⟩
theorem tst_sem {m : ME} {f : FE} (h : ∀ ρ P, (f ρ).sem EX P → m ρ P) {ρ : DEnv} {P : Bool → DEnv → Prop} (hp : (fTst f ρ).sem EX P) : mTst m ρ P :=
  h _ _ (sem_mono (sem_bind.mp hp) fun r ρ1 h1 => by
    obtain ⟨d, e, h1⟩ := sem_ob.mp h1
    cases d <;> first | exact ⟨_, e, h1⟩ | exact h1.elim)
/-- an operator told by data -/
structure OpF (X : Cx) (op : Operator) (g : D → D → Option D) : Prop where
  ex : ∃ (r : R2) (G : D → D → D → Prop), OpR X (binaryOp op) r ∧ OpD r G ∧ ∀ a b d, g a b = some d → G a b d
structure CmF (X : Cx) (op : CmpOp) (g : D → D → Option D) : Prop where
  ex : ∃ (r : R2) (G : D → D → D → Prop), OpR X (compareOp op) r ∧ OpD r G ∧ ∀ a b d, g a b = some d → G a b d
theorem xbin {op : Operator} {g : D → D → Option D} (h : OpF X op g) (ha : XE X E EX a fa) (hb : XE X E EX b fb) : XE X E EX (.BinOp a op b pos) (fBin g fa fb) := by
  obtain ⟨r, G, h1, h2, h3⟩ := h.ex
  exact (de_op h1 h2 ha hb).mono fun ρ P hp => bin_sem h3 hp
theorem xcmp {op : CmpOp} {g : D → D → Option D} (h : CmF X op g) (ha : XE X E EX a fa) (hb : XE X E EX b fb) (hm : behindInMarks op b = false := by rfl) : XE X E EX (.Compare a [op] [b] pos) (fBin g fa fb) := by
  obtain ⟨r, G, h1, h2, h3⟩ := h.ex
  exact (de_cmp h1 h2 ha hb hm).mono fun ρ P hp => bin_sem h3 hp
theorem tcmp {op : CmpOp} {g : D → D → Option D} (h : CmF X op g) (ha : XE X E EX a fa) (hb : XE X E EX b fb) (hm : behindInMarks op b = false := by rfl) : XT X E EX (.Compare a [op] [b] pos) (fTst (fBin g fa fb)) := by
  obtain ⟨r, G, h1, h2, h3⟩ := h.ex
  exact (dt_cmp h1 h2 ha hb hm).mono fun ρ P hp => tst_sem (m := mOp G (lif EX fa) (lif EX fb)) (f := fBin g fa fb) (fun ρ P hp => bin_sem h3 hp) hp
theorem oF {op : Operator} {r : R2} {G : D → D → D → Prop} {g : D → D → Option D} (h : OpR X (binaryOp op) r) (o : OpD r G) (f : ∀ a b d, g a b = some d → G a b d) : OpF X op g := ⟨r, G, h, o, f⟩
theorem cF {op : CmpOp} {r : R2} {G : D → D → D → Prop} {g : D → D → Option D} (h : OpR X (compareOp op) r) (o : OpD r G) (f : ∀ a b d, g a b = some d → G a b d) : CmF X op g := ⟨r, G, h, o, f⟩
theorem o_add : OpF X .Add addD := oF op_addAll od_addAll fun a b d h => by
  unfold addD at h
  split at h
  · cases h; exact .inl (.inl ⟨_, _, rfl, rfl, trivial, rfl⟩)
  · split at h
    · cases h; exact .inl (.inr ⟨_, _, rfl, rfl, by assumption, rfl⟩)
    · cases h
  · split at h
    · cases h; exact .inr (.inl ⟨_, _, rfl, rfl, by assumption, rfl⟩)
    · cases h
  · split at h
    · cases h; exact .inr (.inr ⟨_, _, rfl, rfl, by assumption, rfl⟩)
    · cases h
  · cases h
theorem o_sub : OpF X .Sub subD := oF op_sub od_sub fun a b d h => by
  unfold subD at h
  split at h
  · cases h; exact ⟨_, _, rfl, rfl, trivial, rfl⟩
  · cases h
theorem o_mul : OpF X .Mult mulD := oF op_mulA od_mul fun a b d h => by
  unfold mulD at h
  split at h
  · split at h
    · rename_i hm
      cases h
      refine .inl ⟨_, _, rfl, rfl, ?_, rfl⟩
      intro hh
      rw [mulOk, hh] at hm
      cases hm
    · cases h
  · split at h
    · rename_i hm
      cases h
      exact .inr ⟨_, _, rfl, rfl, hm.1, hm.2.1, hm.2.2, rfl⟩
    · cases h
  · cases h
theorem o_div : OpF X .FloorDiv divD := oF op_fdivW od_div fun a b d h => by
  unfold divD at h
  split at h
  · split at h
    · cases h; exact ⟨_, _, rfl, rfl, by assumption, rfl⟩
    · cases h
  · cases h
theorem o_mod : OpF X .Mod modD := oF op_mod od_mod fun a b d h => by
  unfold modD at h
  split at h
  · split at h
    · cases h; exact ⟨_, _, rfl, rfl, by assumption, rfl⟩
    · cases h
  · cases h
theorem o_pow : OpF X .Pow powD := oF op_powW od_pow fun a b d h => by
  unfold powD at h
  split at h
  · split at h
    · cases h; exact ⟨_, _, rfl, rfl, by assumption, rfl⟩
    · cases h
  · cases h
theorem c_lt : CmF X .Lt ltD := cF op_ltAll od_lt fun a b d h => by
  unfold ltD at h
  split at h
  · cases h; exact .inl ⟨_, _, rfl, rfl, trivial, rfl⟩
  · cases h; exact .inr ⟨_, _, rfl, rfl, trivial, rfl⟩
  · cases h
theorem c_gt : CmF X .Gt gtD := cF op_gtAll od_gt fun a b d h => by
  unfold gtD at h
  split at h
  · cases h; exact .inl ⟨_, _, rfl, rfl, trivial, rfl⟩
  · cases h; exact .inr ⟨_, _, rfl, rfl, trivial, rfl⟩
  · cases h
theorem c_le : CmF X .LtE leD := cF op_le od_cmpI fun a b d h => by
  unfold leD at h
  split at h
  · cases h; exact ⟨_, _, rfl, rfl, trivial, rfl⟩
  · cases h
theorem c_ge : CmF X .GtE geD := cF op_ge od_cmpI fun a b d h => by
  unfold geD at h
  split at h
  · cases h; exact ⟨_, _, rfl, rfl, trivial, rfl⟩
  · cases h
theorem CmF.or {op : CmpOp} {g g' : D → D → Option D} (h : CmF X op g) (h' : CmF X op g') {k : D → D → Option D} (f : ∀ a b d, k a b = some d → g a b = some d ∨ g' a b = some d) : CmF X op k := by
  obtain ⟨r, G, h1, h2, h3⟩ := h.ex
  obtain ⟨r', G', h1', h2', h3'⟩ := h'.ex
  exact ⟨_, _, h1.or h1', h2.or h2', fun a b d e => (f a b d e).elim (fun e => .inl (h3 _ _ _ e)) fun e => .inr (h3' _ _ _ e)⟩
def eqS1 : D → D → Option D
  | .str i, .str j => some (.bl (decide (i = j)))
  | _, _ => none
def neS1 : D → D → Option D
  | .str i, .str j => some (.bl (!decide (i = j)))
  | _, _ => none
def eqP1 (a b : D) : Option D := if plain 64 a = true ∧ plain 64 b = true then some (.bl (PyData.eqv (py a) (py b))) else none
def neP1 (a b : D) : Option D := if plain 64 a = true ∧ plain 64 b = true then some (.bl (!PyData.eqv (py a) (py b))) else none
theorem c_eq (hu : X.A.units + 64 < cLine) : CmF X .Eq eqD := CmF.or (g := eqS1) (g' := eqP1)
  (cF op_eq od_eqS fun a b d h => by
    unfold eqS1 at h
    split at h
    · cases h; exact ⟨_, _, rfl, rfl, by simp⟩
    · cases h)
  (cF (op_eqD hu) od_eqD fun a b d h => by
    unfold eqP1 at h
    split at h
    · rename_i hp; cases h; exact ⟨hp.1, hp.2, by simp⟩
    · cases h) fun a b d h => by
  unfold eqD at h
  split at h
  · exact .inl h
  · exact .inr h
theorem c_ne (hu : X.A.units + 64 < cLine) : CmF X .NotEq neD := CmF.or (g := neS1) (g' := neP1)
  (cF op_ne od_neS fun a b d h => by
    unfold neS1 at h
    split at h
    · cases h; exact ⟨_, _, rfl, rfl, by simp⟩
    · cases h)
  (cF (op_neD hu) od_neD fun a b d h => by
    unfold neP1 at h
    split at h
    · rename_i hp; cases h; exact ⟨hp.1, hp.2, by simp⟩
    · cases h) fun a b d h => by
  unfold neD at h
  split at h
  · exact .inl h
  · exact .inr h
theorem c_is : CmF X .Is isN := cF op_isN od_isN fun a b d h => by
  unfold isN at h
  split at h
  · cases h; exact ⟨rfl, by simp⟩
  · cases h
theorem c_isnt : CmF X .IsNot isntN := cF op_notN od_notN fun a b d h => by
  unfold isntN at h
  split at h
  · cases h; exact ⟨rfl, by simp⟩
  · cases h
theorem inB_all {neg : Bool} {a b : D} {c : Bool} (h : inB a b = some c) : gIn neg a b (.bl (if neg then !c else c)) ∨ (gInS neg a b (.bl (if neg then !c else c)) ∨ gInK neg a b (.bl (if neg then !c else c))) := by
  unfold inB at h
  split at h
  · split at h
    · rename_i hh; cases h; exact .inl ⟨hh.1, _, .inl rfl, hh.2, rfl⟩
    · cases h
  · split at h
    · rename_i hh; cases h; exact .inl ⟨hh.1, _, .inr rfl, hh.2, rfl⟩
    · cases h
  · split at h
    · rename_i x z l0 c1 hc
      cases h
      refine .inr (.inl ⟨c1, _, ?_, rfl, rfl⟩)
      have : x = ⟨#[c1]⟩ := by
        obtain ⟨⟨l⟩⟩ := x
        simp at hc
        rw [hc]
      rw [this]
    · cases h
  · simp only [Option.map_eq_some_iff] at h
    obtain ⟨k, hk, rfl⟩ := h
    exact .inr (.inr ⟨_, k, rfl, hk, rfl⟩)
  · cases h
theorem c_in (hu : X.A.units + 1 < cLine) : CmF X .In inF := cF (op_in_seq.or (op_in_sign.or (op_inK hu))) ((od_in false).or (od_inS.or (od_inK false))) fun a b d h => by
  simp only [inF, Option.map_eq_some_iff] at h
  obtain ⟨c, hc, rfl⟩ := h
  exact inB_all (neg := false) hc
theorem c_notin (hu : X.A.units + 1 < cLine) : CmF X .NotIn notInF := cF (op_notIn_seq.or (op_notIn_sign.or (op_notInK hu))) ((od_in true).or (od_notInS.or (od_inK true))) fun a b d h => by
  simp only [notInF, Option.map_eq_some_iff] at h
  obtain ⟨c, hc, rfl⟩ := h
  exact inB_all (neg := true) hc
theorem xitem (hu : X.A.units + 1 < cLine) (ha : XE X E EX a fa) (hb : XE X E EX b fb) (hs : PlainIx b := by first | exact fun _ _ => rfl) : XE X E EX (.Subscript a b pos) (fBin itemD fa fb) := (de_item hu ha hb hs).mono fun ρ P hp => bin_sem (fun a b d h => by
  unfold itemD at h
  split at h
  · exact .inl (.inl ⟨_, _, rfl, rfl, h⟩)
  · exact .inl (.inr (.inl ⟨_, _, rfl, rfl, h⟩))
  · split at h
    · simp only [Option.map_eq_some_iff] at h
      obtain ⟨c, hc, rfl⟩ := h
      exact .inl (.inr (.inr ⟨_, _, c, rfl, rfl, by assumption, hc, rfl⟩))
    · cases h
  · simp only [Option.bind_eq_some_iff] at h
    obtain ⟨k, hk, h⟩ := h
    exact .inr ⟨_, k, rfl, hk, h⟩
  · cases h) hp
theorem xneg (h : XE X E EX a fa) : XE X E EX (.UnaryOp .USub a pos) (fNeg fa) := (de_neg h).mono fun ρ P hp => sem_mono (sem_bind.mp hp) fun r ρ1 h1 => by
  obtain ⟨d, e, h1⟩ := sem_ob.mp h1
  cases d <;> first | exact ⟨_, e, h1⟩ | exact h1.elim
/-! tests -/
theorem tval (h : XE X E EX e fe) (he : ∀ whole, isTrue e X.env whole = (do let v ← whole; standAt e.pos; holding [v] (truthy v)) := by intro _; rfl) : XT X E EX e (fTst fe) := (dt_val h he).mono fun ρ P hp => tst_sem (fun ρ P hp => hp) hp
abbrev XW (X : Cx) (E : En) (EX : DX) (e : Expr) (f : FT) : Prop := DW X E e (lif EX f)
theorem wand1 (h : XT X E EX a ft) : XW X E EX (.BoolOp .And [a] pos) ft := dw_and1 h
theorem wor1 (h : XT X E EX a ft) : XW X E EX (.BoolOp .Or [a] pos) ft := dw_or1 h
theorem wand {rest : List Expr} (ha : XT X E EX a ft) (hb : XW X E EX (.BoolOp .And (b :: rest) pos) fu) : XW X E EX (.BoolOp .And (a :: b :: rest) pos) (fAndT ft fu) := DW.mono (dw_and ha hb) fun ρ P hp => sem_mono (sem_bind.mp hp) fun c ρ1 h1 => by
  cases c <;> exact h1
theorem wor {rest : List Expr} (ha : XT X E EX a ft) (hb : XW X E EX (.BoolOp .Or (b :: rest) pos) fu) : XW X E EX (.BoolOp .Or (a :: b :: rest) pos) (fOrT ft fu) := DW.mono (dw_or ha hb) fun ρ P hp => sem_mono (sem_bind.mp hp) fun c ρ1 h1 => by
  cases c <;> exact h1
theorem tw (h : XW X E EX e ft) : XT X E EX e ft := h.pt
theorem tnot (h : XT X E EX a ft) : XT X E EX (.UnaryOp .Not a pos) (fNotT ft) := (dt_not h).mono fun ρ P hp => sem_bind.mp hp
theorem xone {op} (h : XE X E EX a fa) : XE X E EX (.BoolOp op [a] pos) fa := de_one h
theorem xand {rest : List Expr} (ha : XE X E EX a fa) (hb : XE X E EX (.BoolOp .And (b :: rest) pos) fb) : XE X E EX (.BoolOp .And (a :: b :: rest) pos) (fAnd fa fb) := (de_and ha hb).mono fun ρ P hp => sem_mono (sem_bind.mp hp) fun r ρ1 h1 => by
  obtain ⟨d, e, h1⟩ := sem_ob.mp h1
  obtain ⟨c, rfl, h1⟩ := fBl_sem.mp h1
  exact ⟨c, e, by cases c <;> exact h1⟩
theorem xor {rest : List Expr} (ha : XE X E EX a fa) (hb : XE X E EX (.BoolOp .Or (b :: rest) pos) fb) : XE X E EX (.BoolOp .Or (a :: b :: rest) pos) (fOr fa fb) := (de_or ha hb).mono fun ρ P hp => sem_mono (sem_bind.mp hp) fun r ρ1 h1 => by
  obtain ⟨d, e, h1⟩ := sem_ob.mp h1
  obtain ⟨c, rfl, h1⟩ := fBl_sem.mp h1
  exact ⟨c, e, by cases c <;> exact h1⟩
theorem xnot (h : XE X E EX a fa) : XE X E EX (.UnaryOp .Not a pos) (fNot fa) := (de_not h).mono fun ρ P hp => sem_mono (sem_bind.mp hp) fun r ρ1 h1 => by
  obtain ⟨d, e, h1⟩ := sem_ob.mp h1
  obtain ⟨c, rfl, h1⟩ := fBl_sem.mp h1
  exact ⟨c, e, h1⟩
theorem xif (hc : XT X E EX c ft) (ha : XE X E EX a fa) (hb : XE X E EX b fb) : XE X E EX (.IfExp c a b pos) (fIfE ft fa fb) := (de_if hc ha hb).mono fun ρ P hp => sem_mono (sem_bind.mp hp) fun c ρ1 h1 => by
  cases c <;> exact h1
theorem chain_sem {g g' : D → D → Option D} {G G' : D → D → D → Prop} (hg : ∀ a b d, g a b = some d → G a b d) (hg' : ∀ a b d, g' a b = some d → G' a b d) {ρ : DEnv} {P : Rf → DEnv → Prop} (hp : (fChain g g' fa fb fc ρ).sem EX P) : mChain G G' (lif EX fa) (lif EX fb) (lif EX fc) ρ P :=
  sem_mono (sem_bind.mp hp) fun r1 ρ1 h1 => sem_mono (sem_bind.mp h1) fun r2 ρ2 h2 => by
    obtain ⟨d1, e1, h2⟩ := sem_ob.mp h2
    obtain ⟨d2, e2, h2⟩ := sem_ob.mp h2
    obtain ⟨d, e, h2⟩ := sem_ob.mp h2
    obtain ⟨c, rfl, h2⟩ := fBl_sem.mp h2
    refine ⟨d1, d2, c, e1, e2, hg _ _ _ e, ?_⟩
    cases c with
    | false => exact h2
    | true =>
      refine sem_mono (sem_bind.mp h2) fun r3 ρ3 h3 => ?_
      · obtain ⟨d2', e2', h3⟩ := sem_ob.mp h3
        obtain ⟨d3, e3, h3⟩ := sem_ob.mp h3
        obtain ⟨d, e, h3⟩ := sem_ob.mp h3
        exact ⟨d2', d3, d, e2', e3, hg' _ _ _ e, h3⟩
theorem xchain {op op' : CmpOp} {g g' : D → D → Option D} (h : CmF X op g) (h' : CmF X op' g') (ha : XE X E EX a fa) (hb : XE X E EX b fb) (hc : XE X E EX c fc) (q : ∀ {r r' : R2} {G G' : D → D → D → Prop} {mc : ME}, OpR X (compareOp op) r → OpD r G → OpR X (compareOp op') r' → OpD r' G' → DE X E c mc → DE X E (.Compare a [op, op'] [b, c] pos) (mChain G G' (lif EX fa) (lif EX fb) mc)) :
    XE X E EX (.Compare a [op, op'] [b, c] pos) (fChain g g' fa fb fc) := by
  obtain ⟨r, G, h1, h2, h3⟩ := h.ex
  obtain ⟨r', G', h1', h2', h3'⟩ := h'.ex
  exact (q h1 h2 h1' h2' hc).mono fun ρ P hp => chain_sem h3 h3' hp
theorem tchain {op op' : CmpOp} {g g' : D → D → Option D} (h : CmF X op g) (h' : CmF X op' g') (ha : XE X E EX a fa) (hb : XE X E EX b fb) (hc : XE X E EX c fc) (q : ∀ {r r' : R2} {G G' : D → D → D → Prop} {mc : ME}, OpR X (compareOp op) r → OpD r G → OpR X (compareOp op') r' → OpD r' G' → DE X E c mc → DT X E (.Compare a [op, op'] [b, c] pos) (mTst (mChain G G' (lif EX fa) (lif EX fb) mc))) :
    XT X E EX (.Compare a [op, op'] [b, c] pos) (fTst (fChain g g' fa fb fc)) := by
  obtain ⟨r, G, h1, h2, h3⟩ := h.ex
  obtain ⟨r', G', h1', h2', h3'⟩ := h'.ex
  exact (q h1 h2 h1' h2' hc).mono fun ρ P hp => tst_sem (m := mChain G G' (lif EX fa) (lif EX fb) (lif EX fc)) (f := fChain g g' fa fb fc) (fun ρ P hp => chain_sem h3 h3' hp) hp
/-! argument lists, displays, built-ins -/
theorem anil : XA X E EX [] fNil := da_nil.mono fun ρ P hp => hp
theorem acons (h : XE X E EX e fe) (hr : XA X E EX es fr) (hs : starEach (e :: es) X.env = (false, eval e X.env) :: starEach es X.env := by rfl) : XA X E EX (e :: es) (fCons fe fr) := (da_cons h hr hs).mono fun ρ P hp => sem_mono (sem_bind.mp hp) fun r ρ1 h1 => sem_bind.mp h1
theorem xoo (h : XO X E EX e fo) : XE X E EX e (fOO fo) := (de_o h).mono fun ρ P hp => sem_bind.mp hp
theorem escs_len {ρ ρ' : DEnv} : ∀ {rs : List Rf} {ds : List D}, escs ρ rs = some (ds, ρ') → ds.length = rs.length := by
  intro rs
  induction rs generalizing ρ with
  | nil => intro ds h; simp [escs] at h; simp [← h.1]
  | cons r rs ih =>
    intro ds h
    rw [show escs ρ (r :: rs) = (esc ρ r).bind fun p => (escs p.2 rs).map fun q => (p.1 :: q.1, q.2) from rfl] at h
    simp only [Option.bind_eq_some_iff, Option.map_eq_some_iff] at h
    obtain ⟨p, _, q, h2, h3⟩ := h
    cases h3
    simp [ih (ds := q.1) h2]
theorem le_sizeLine {n : Nat} (h : n ≤ 1000) : n ≤ sizeLine := by rw [sizeLine_eq]; omega
theorem olst (h : XA X E EX es fas) : XO X E EX (.List es pos) (fLst fas) := (do_lst h).mono fun ρ P hp => sem_mono (sem_bind.mp hp) fun rs ρ1 h1 => by
  obtain ⟨q, e, h1⟩ := sem_ob.mp h1
  obtain ⟨hl, h1⟩ := sem_ifno.mp h1
  exact ⟨q.1, q.2, e, le_sizeLine hl, h1⟩
theorem xtup {x1} (h : XA X E EX es fas) : XE X E EX (.Tuple es x1 pos) (fTup fas) := (de_tup h).mono fun ρ P hp => sem_mono (sem_bind.mp hp) fun rs ρ1 h1 => by
  obtain ⟨q, e, h1⟩ := sem_ob.mp h1
  obtain ⟨hl, h1⟩ := sem_ifno.mp h1
  exact ⟨q.1, q.2, e, le_sizeLine hl, h1⟩
theorem ca_sem {g : List D → Option D} {G : List D → D → Prop} (hg : ∀ ds d, g ds = some d → G ds d) {ρ : DEnv} {P : Rf → DEnv → Prop} (hp : (fCa g fas ρ).sem EX P) : mCa G (lif EX fas) ρ P := sem_mono (sem_bind.mp hp) fun rs ρ1 h1 => by
  obtain ⟨ds, e, h1⟩ := sem_ob.mp h1
  obtain ⟨d, e', h1⟩ := sem_ob.mp h1
  exact ⟨ds, d, e, hg _ _ e', h1⟩
theorem caO_sem {g : List D → Option D} {G : List D → D → Prop} (hg : ∀ ds d, g ds = some d → G ds d) {ρ : DEnv} {P : D → DEnv → Prop} (hp : (fCaO g fas ρ).sem EX P) : mCaO G (lif EX fas) ρ P := sem_mono (sem_bind.mp hp) fun rs ρ1 h1 => by
  obtain ⟨ds, e, h1⟩ := sem_ob.mp h1
  obtain ⟨d, e', h1⟩ := sem_ob.mp h1
  exact ⟨ds, d, e, hg _ _ e', h1⟩
/-- a built-in told by data -/
structure BuF (X : Cx) (id : String) (g : List D → Option D) : Prop where
  ex : ∃ (r : List V → Hp → VK → Prop) (G : List D → D → Prop), CallR X (.builtin id) r ∧ CaD r G ∧ ∀ ds d, g ds = some d → G ds d
structure BuO (X : Cx) (id : String) (g : List D → Option D) : Prop where
  ex : ∃ (r : List V → Hp → VK → Prop) (G : List D → D → Prop), CallR X (.builtin id) r ∧ CaO r G ∧ ∀ ds d, g ds = some d → G ds d
structure TyF (X : Cx) (id : String) (g : List D → Option D) : Prop where
  ex : ∃ (r : List V → Hp → VK → Prop) (G : List D → D → Prop), CallR X (.type id) r ∧ CaD r G ∧ ∀ ds d, g ds = some d → G ds d
structure TyO (X : Cx) (id : String) (g : List D → Option D) : Prop where
  ex : ∃ (r : List V → Hp → VK → Prop) (G : List D → D → Prop), CallR X (.type id) r ∧ CaO r G ∧ ∀ ds d, g ds = some d → G ds d
theorem xb {id : String} {g : List D → Option D} (h : BuF X id g) (hg : Gl X x) (hm : X.mg x = none) (hv : bootBuiltins x = some (.builtin id)) (ha : XA X E EX (e :: es) fas) (hn : x ≠ "__name__" := by decide) (hdb : (x == ("__debug__" : Str)) = false := by decide)
    (he : starEach (e :: es) X.env = (false, eval e X.env) :: starEach es X.env := by rfl) (hpl : (backTo pos (starEach es X.env)).any (·.1) = false := by rfl) : XE X E EX (.Call (.Name x p) (e :: es) [] pos) (fCa g fas) := by
  obtain ⟨r, G, h1, h2, h3⟩ := h.ex
  exact (de_b h1 h2 hg hm hv ha hn hdb he hpl).mono fun ρ P hp => ca_sem h3 hp
theorem ob_ {id : String} {g : List D → Option D} (h : BuO X id g) (hg : Gl X x) (hm : X.mg x = none) (hv : bootBuiltins x = some (.builtin id)) (ha : XA X E EX (e :: es) fas) (hn : x ≠ "__name__" := by decide) (hdb : (x == ("__debug__" : Str)) = false := by decide)
    (he : starEach (e :: es) X.env = (false, eval e X.env) :: starEach es X.env := by rfl) (hpl : (backTo pos (starEach es X.env)).any (·.1) = false := by rfl) : XO X E EX (.Call (.Name x p) (e :: es) [] pos) (fCaO g fas) := by
  obtain ⟨r, G, h1, h2, h3⟩ := h.ex
  exact (do_b h1 h2 hg hm hv ha hn hdb he hpl).mono fun ρ P hp => caO_sem h3 hp
theorem xty {id : String} {g : List D → Option D} (h : TyF X id g) (hg : Gl X x) (hm : X.mg x = none) (hv : bootBuiltins x = some (.type id)) (ha : XA X E EX (e :: es) fas) (hn : x ≠ "__name__" := by decide) (hdb : (x == ("__debug__" : Str)) = false := by decide)
    (he : starEach (e :: es) X.env = (false, eval e X.env) :: starEach es X.env := by rfl) (hpl : (backTo pos (starEach es X.env)).any (·.1) = false := by rfl) : XE X E EX (.Call (.Name x p) (e :: es) [] pos) (fCa g fas) := by
  obtain ⟨r, G, h1, h2, h3⟩ := h.ex
  exact (de_ty h1 h2 hg hm hv ha hn hdb he hpl).mono fun ρ P hp => ca_sem h3 hp
theorem oty {id : String} {g : List D → Option D} (h : TyO X id g) (hg : Gl X x) (hm : X.mg x = none) (hv : bootBuiltins x = some (.type id)) (ha : XA X E EX (e :: es) fas) (hn : x ≠ "__name__" := by decide) (hdb : (x == ("__debug__" : Str)) = false := by decide)
    (he : starEach (e :: es) X.env = (false, eval e X.env) :: starEach es X.env := by rfl) (hpl : (backTo pos (starEach es X.env)).any (·.1) = false := by rfl) : XO X E EX (.Call (.Name x p) (e :: es) [] pos) (fCaO g fas) := by
  obtain ⟨r, G, h1, h2, h3⟩ := h.ex
  exact (do_ty h1 h2 hg hm hv ha hn hdb he hpl).mono fun ρ P hp => caO_sem h3 hp
theorem b_len : BuF X "len" lenD := ⟨_, gLen, call_len, ca_len, fun ds d h => by
  unfold lenD at h
  split at h
  · cases h; exact .inl ⟨_, rfl, rfl⟩
  · cases h; exact .inr (.inl ⟨_, rfl, rfl⟩)
  · split at h
    · cases h; exact .inr (.inr ⟨_, rfl, by assumption, rfl⟩)
    · cases h
  · cases h⟩
theorem b_abs : BuF X "abs" (i1D fun i => if i < 0 then -i else i) := ⟨_, gI1 fun i => if i < 0 then -i else i, call_abs, ca_I1, fun ds d h => by
  unfold i1D at h
  split at h
  · cases h; exact ⟨_, rfl, rfl⟩
  · cases h⟩
theorem i2_ok {f : Int → Int → Int} (ds : List D) (d : D) (h : i2D f ds = some d) : gI2 f ds d := by
  unfold i2D at h
  split at h
  · cases h; exact ⟨_, _, rfl, rfl⟩
  · cases h
theorem t_int : TyF X "int" intD := ⟨_, gInt, call_int1, ca_int, fun ds d h => by
  unfold intD at h
  split at h
  · cases h; exact .inl ⟨_, rfl, rfl⟩
  · cases h; exact .inr ⟨_, rfl, rfl⟩
  · cases h⟩
theorem b_any (hc : X.calm = true) : BuF X "any" anyF := ⟨_, gAny, cr_any hc, ca_any, fun ds d h => by
  unfold anyF at h
  split at h
  · simp only [Option.map_eq_some_iff] at h
    obtain ⟨bs, hb, rfl⟩ := h
    exact ⟨bs, by rw [blsOf_eq hb], rfl⟩
  · cases h⟩
theorem b_all (hc : X.calm = true) : BuF X "all" allF := ⟨_, gAll, cr_all hc, ca_all, fun ds d h => by
  unfold allF at h
  split at h
  · simp only [Option.map_eq_some_iff] at h
    obtain ⟨bs, hb, rfl⟩ := h
    exact ⟨bs, by rw [blsOf_eq hb], rfl⟩
  · cases h⟩
theorem b_sum (hc : X.calm = true) : BuF X "sum" sumF := ⟨_, gSum, cr_sum hc, ca_sum, fun ds d h => by
  unfold sumF at h
  split at h
  · simp only [Option.map_eq_some_iff] at h
    obtain ⟨bs, hb, rfl⟩ := h
    exact ⟨bs, by rw [intsOf_eq hb], rfl⟩
  · cases h⟩
theorem b_repr {k : Nat} (hr : RoomG k X.A) : BuF X "repr" reprF := ⟨_, gRepr, call_repr hr.g hr.units66, ca_repr, fun ds d h => by
  unfold reprF at h
  split at h
  · split at h
    · rename_i hh; cases h; exact ⟨_, rfl, hh.1, hh.2.1, hh.2.2, rfl⟩
    · cases h
  · cases h⟩
theorem b_sort : BuO X "sorted" sortF := ⟨_, gSortS, cr_sortLS, co_sortS, fun ds d h => by
  unfold sortF at h
  split at h
  · simp only [Option.bind_eq_some_iff] at h
    obtain ⟨ys, hy, h⟩ := h
    split at h
    · cases h; exact ⟨ys, by rw [strsOf_eq hy], by assumption, rfl⟩
    · cases h
  · cases h⟩
theorem t_list : TyO X "list" listF := ⟨_, gList, call_list_of, co_list, fun ds d h => by
  unfold listF at h
  split at h
  · cases h; exact ⟨_, .inl rfl, rfl⟩
  · cases h; exact ⟨_, .inr rfl, rfl⟩
  · cases h⟩
theorem t_tuple : TyF X "tuple" tupleF := ⟨_, gTuple, call_tuple_of, ca_tuple, fun ds d h => by
  unfold tupleF at h
  split at h
  · cases h; exact ⟨_, .inl rfl, rfl⟩
  · cases h; exact ⟨_, .inr rfl, rfl⟩
  · cases h⟩
theorem osrtSet (he : XE X E EX e fe) (q : ∀ {me : ME}, DE X E e me → DO X E (.Call (.Name "sorted" p) [.Call (.Name "set" p2) [e] [] apos] [] pos) (mSrtSet me)) : XO X E EX (.Call (.Name "sorted" p) [.Call (.Name "set" p2) [e] [] apos] [] pos) (fSrtSet fe) := (q he).mono fun ρ P hp => sem_mono (sem_bind.mp hp) fun r ρ1 h1 => by
  obtain ⟨d, e, h1⟩ := sem_ob.mp h1
  obtain ⟨d', e', h1⟩ := sem_ob.mp h1
  unfold srtSetF at e'
  split at e'
  · simp only [Option.bind_eq_some_iff] at e'
    obtain ⟨ys, hy, h⟩ := e'
    split at h
    · cases h; exact ⟨ys, by rw [e, strsOf_eq hy], by assumption, h1⟩
    · cases h
  · cases e'
theorem xjoin (ho : XE X E EX o fa) (he : XE X E EX e fe) (hs : starEach [e] X.env = [(false, eval e X.env)] := by rfl) (hbase : attributeBase o "join" X.env (eval o X.env) = eval o X.env := by rfl) (hline : (apos.endLine == pos.line) = true := by rfl) :
    XE X E EX (.Call (.Attribute o "join" apos) [e] [] pos) (fJoin fa fe) := (de_join ho he hs hbase hline).mono fun ρ P hp => sem_mono (sem_bind.mp hp) fun r ρ1 h1 => by
  obtain ⟨d, e, h1⟩ := sem_ob.mp h1
  cases d with
  | str z =>
    refine ⟨z, e, sem_mono (sem_bind.mp h1) fun r2 ρ2 h2 => ?_⟩
    · obtain ⟨d2, e2, h2⟩ := sem_ob.mp h2
      cases d2 with
      | lst ds =>
        obtain ⟨ys, hy, h2⟩ := sem_ob.mp h2
        obtain ⟨hz, h2⟩ := sem_ifno.mp h2
        exact ⟨ys, by rw [e2, strsOf_eq hy], hz, h2⟩
      | _ => exact h2.elim
  | _ => exact h1.elim
theorem pnone : XP X E EX none fPN := dp_none.mono fun ρ P hp => hp
theorem psome (h : XE X E EX a fa) : XP X E EX (some a) (fPS fa) := (dp_some h).mono fun ρ P hp => sem_mono (sem_bind.mp hp) fun r ρ1 h1 => by
  obtain ⟨d, e, h1⟩ := sem_ob.mp h1
  cases d <;> first | exact ⟨_, e, h1⟩ | exact h1.elim
theorem xsl {lo hi : Option Expr} {fl fh : FP} (ha : XE X E EX a fa) (hl : XP X E EX lo fl) (hh : XP X E EX hi fh) : XE X E EX (.Subscript a (.Slice lo hi none p2) pos) (fSl fa fl fh) := (de_sl ha hl hh).mono fun ρ P hp =>
  sem_mono (sem_bind.mp hp) fun r ρ1 h1 => sem_mono (sem_bind.mp h1) fun l ρ2 h2 => sem_mono (sem_bind.mp h2) fun u ρ3 h3 => by
    obtain ⟨d, e, h3⟩ := sem_ob.mp h3
    obtain ⟨d', e', h3⟩ := sem_ob.mp h3
    refine ⟨d, d', e, ?_, h3⟩
    unfold sliceD at e'
    split at e'
    · cases e'; exact .inl ⟨_, rfl, rfl⟩
    · cases e'; exact .inr (.inr ⟨_, rfl, rfl⟩)
    · split at e'
      · cases e'; exact .inr (.inl ⟨_, rfl, by assumption, rfl⟩)
      · cases e'
    · cases e'
theorem xfld {K : PySem.W.Frag} {Cs : List Addr} {f : Str} (hK : X.K = K) (hf : ∀ C ∈ Cs, Fk K C f) (h : XE X E EX e fe) (hb : attributeBase e f X.env (eval e X.env) = eval e X.env := by rfl) : XE X E EX (.Attribute e f pos) (fFld Cs f fe) := (de_fldK hK h hb).mono fun ρ P hp => sem_mono (sem_bind.mp hp) fun r ρ1 h1 => by
  obtain ⟨d, e, h2⟩ := sem_ob.mp h1
  obtain ⟨d', e', h3⟩ := sem_ob.mp h2
  clear h1 h2
  unfold fldOf at e'
  split at e'
  · split at e'
    · exact ⟨_, _, d', e, e', hf _ (by assumption), h3⟩
    · cases e'
  · cases e'
end
end DL
/-! FL3: calls, loops, statements, defs. -/
namespace DL
open PySem L2 PySem.Spec PyProof.Rows
open D (blsOf strsOf intsOf)
/-! ### isinstance -/
def isTys : List String := ["NoneType", "bool", "int", "str", "list", "tuple", "dict"]
/-- what the top says of an own class for isinstance -/
structure IsC (K : PySem.W.Frag) (C : Addr) (no : List Addr) : Prop where
  ic : IC K C
  yes : PySem.W.kitOne K (.ref C) (.ref C) = some true
  tys : ∀ T ∈ isTys, PySem.W.kitOne K (.type T) (.ref C) = some false
  no_ : ∀ C' ∈ no, IC K C' ∧ PySem.W.kitOne K (.ref C') (.ref C) = some false
structure IsT (K : PySem.W.Frag) (T : String) (no : List Addr) : Prop where
  tys : ∀ T' ∈ isTys, PySem.W.kitOne K (.type T') (.type T) = some (decide (T' = T ∨ (T' = "bool" ∧ T = "int")))
  no_ : ∀ C' ∈ no, IC K C' ∧ PySem.W.kitOne K (.ref C') (.type T) = some false
theorem isOwn_ok {K : PySem.W.Frag} {C : Addr} {no : List Addr} (h : IsC K C no) (d : D) (b : Bool) (e : isOwn C no d = some b) : gIsi K (.ref C) d b := by
  have tt : ∀ T ∈ isTys, ∀ {b : Bool}, some false = some b → PySem.W.kitOne K (.type T) (.ref C) = some b := fun T hT b e => by rw [h.tys T hT, e]
  cases d with
  | ins C' fs =>
    simp only [isOwn] at e
    split at e
    · subst_vars
      exact ⟨_, rfl, e ▸ h.yes, fun C fs q => by cases q; exact h.ic⟩
    · split at e
      · rename_i hm
        exact ⟨_, rfl, e ▸ (h.no_ _ hm).2, fun C fs q => by cases q; exact (h.no_ _ hm).1⟩
      · cases e
  | ty _ => cases e
  | exc _ _ _ _ => cases e
  | mem _ _ => cases e
  | non => exact ⟨_, rfl, tt _ (by decide) e, fun C fs q => by cases q⟩
  | bl _ => exact ⟨_, rfl, tt _ (by decide) e, fun C fs q => by cases q⟩
  | int _ => exact ⟨_, rfl, tt _ (by decide) e, fun C fs q => by cases q⟩
  | str _ => exact ⟨_, rfl, tt _ (by decide) e, fun C fs q => by cases q⟩
  | lst _ => exact ⟨_, rfl, tt _ (by decide) e, fun C fs q => by cases q⟩
  | tup _ => exact ⟨_, rfl, tt _ (by decide) e, fun C fs q => by cases q⟩
  | dic _ => exact ⟨_, rfl, tt _ (by decide) e, fun C fs q => by cases q⟩
theorem isTy_ok {K : PySem.W.Frag} {T : String} {no : List Addr} (h : IsT K T no) (hT : T ∈ ["int", "tuple", "list", "str", "dict"]) (d : D) (b : Bool) (e : isTy T no d = some b) : gIsi K (.type T) d b := by
  have tt : ∀ T' ∈ isTys, ∀ {b : Bool}, some (decide (T' = T ∨ (T' = "bool" ∧ T = "int"))) = some b → PySem.W.kitOne K (.type T') (.type T) = some b := fun T' hT b e => by rw [h.tys T' hT, e]
  cases d with
  | ins C' fs =>
    simp only [isTy] at e
    split at e
    · rename_i hm
      exact ⟨_, rfl, e ▸ (h.no_ _ hm).2, fun C fs q => by cases q; exact (h.no_ _ hm).1⟩
    · cases e
  | ty _ => cases e
  | exc _ _ _ _ => cases e
  | mem _ _ => cases e
  | non => exact ⟨_, rfl, tt "NoneType" (by decide) (by rw [← e]; simp [isTy, eq_comm]), fun C fs q => by cases q⟩
  | bl _ => exact ⟨_, rfl, tt "bool" (by decide) (by rw [← e]; simp [isTy, eq_comm]), fun C fs q => by cases q⟩
  | int _ => exact ⟨_, rfl, tt "int" (by decide) (by rw [← e]; simp [isTy, eq_comm]), fun C fs q => by cases q⟩
  | str _ => exact ⟨_, rfl, tt "str" (by decide) (by rw [← e]; simp [isTy, eq_comm]), fun C fs q => by cases q⟩
  | lst _ => exact ⟨_, rfl, tt "list" (by decide) (by rw [← e]; simp [isTy, eq_comm]), fun C fs q => by cases q⟩
  | tup _ => exact ⟨_, rfl, tt "tuple" (by decide) (by rw [← e]; simp [isTy, eq_comm]), fun C fs q => by cases q⟩
  | dic _ => exact ⟨_, rfl, tt "dict" (by decide) (by rw [← e]; simp [isTy, eq_comm]), fun C fs q => by cases q⟩
section
variable {X : Cx} {E : En} {EX : DX} {e a b c o : Expr} {es : List Expr} {pos apos p p2 : Pos} {fa fb fc fe : FE} {fr fas fks : FA} {fo : FW} {ft fu : FT} {fi : FI} {x m : Str} {K : PySem.W.Frag}
theorem xisi {cv : V} {cu : Value} {g : D → Option Bool} (hK : X.K = K) (hc : PE X c (tC cv)) (hv : ClsV cv cu) (hg' : ∀ d b, g d = some b → gIsi K cu d b) (he : XE X E EX e fe) (hg : Gl X "isinstance") (hm : X.mg "isinstance" = none) (hs : starEach [e, c] X.env = (false, eval e X.env) :: starEach [c] X.env := by rfl) (hs2 : starEach [c] X.env = (false, eval c X.env) :: starEach [] X.env := by rfl)
    (hpl : (backTo pos (starEach [c] X.env)).any (·.1) = false := by rfl) : XE X E EX (.Call (.Name "isinstance" p) [e, c] [] pos) (isiD g fe) := (de_isiK hK hc hv he hg hm hs hs2 hpl).mono fun ρ P hp => sem_mono (sem_bind.mp hp) fun r ρ1 h1 => by
  obtain ⟨d, e, h2⟩ := sem_ob.mp h1
  obtain ⟨b, e', h3⟩ := sem_ob.mp h2
  exact ⟨d, b, e, hg' _ _ e', h3⟩
/-! ### calls -/
theorem dk_of {F : FF} {as : List DV} {ρ : DEnv} {is : List Nat} {k : D → DEnv → R β} {P : β → DEnv → Prop} {R' O' : D → DEnv → Prop} (hr : ∀ d ρ, (k d ρ).sem EX P → R' d ρ) (ho : ∀ d ρ, (k d ρ).sem EX P → O' d ρ)
    (h : (match F as with
      | .rt d ns => ob (giveBack ρ is ns) fun ρ3 => k d ρ3
      | .ro d ns => ob (giveBack ρ is ns) fun ρ3 => k d ρ3
      | .ex C d ns => ob (giveBack ρ is ns) fun ρ3 => .ex C d ρ3
      | .no => .no).sem EX P) : fnS F as (dkOf ρ is EX R' O') := by
  unfold fnS
  split <;> rename_i q <;> rw [q] at h
  · obtain ⟨ρ3, e, h⟩ := sem_ob.mp h
    exact ⟨ρ3, e, hr _ _ h⟩
  · obtain ⟨ρ3, e, h⟩ := sem_ob.mp h
    exact ⟨ρ3, e, ho _ _ h⟩
  · obtain ⟨ρ3, e, h⟩ := sem_ob.mp h
    exact ⟨ρ3, e, h⟩
  · exact h.elim
theorem callR_sem {F : FF} {ms : List Bool} {rs : List Rf} {ρ : DEnv} {k : D → DEnv → R β} {P : β → DEnv → Prop} (h : (callR F ms rs ρ k).sem EX P) :
    ∃ as ρ2 is, hand ms ρ rs = some (as, ρ2, is) ∧ fnS F as (dkOf ρ2 is EX (fun d ρ3 => (k d ρ3).sem EX P) fun d ρ3 => (k d ρ3).sem EX P) := by
  obtain ⟨q, e, h⟩ := sem_ob.mp h
  exact ⟨q.1, q.2.1, q.2.2, e, dk_of (k := k) (fun _ _ h => h) (fun _ _ h => h) h⟩
theorem callO_sem {F : FF} {ms : List Bool} {rs : List Rf} {ρ : DEnv} {P : D → DEnv → Prop} (h : (callO F ms rs ρ).sem EX P) :
    ∃ as ρ2 is, hand ms ρ rs = some (as, ρ2, is) ∧ fnS F as (dkOf ρ2 is EX (fun _ _ => False) fun d ρ3 => P d ρ3) := by
  obtain ⟨q, e, h⟩ := sem_ob.mp h
  refine ⟨q.1, q.2.1, q.2.2, e, ?_⟩
  unfold fnS
  split <;> rename_i z <;> rw [z] at h
  · exact h.elim
  · obtain ⟨ρ3, e, h⟩ := sem_ob.mp h
    exact ⟨ρ3, e, h⟩
  · obtain ⟨ρ3, e, h⟩ := sem_ob.mp h
    exact ⟨ρ3, e, h⟩
  · exact h.elim
section
variable {f g C q : Addr} {fd : FuncData} {k : Nat} {ps : List Str} {F : FF}
/-- the context's own def's promise -/
abbrev GOk (X : Cx) (k : Nat) (f : Addr) (fd : FuncData) (ps : List Str) (F : FF) : Prop := FnG X.prog X.w X.K X.mg X.base (L2.CX X.prog X.w) k f fd ps (liftSp (fnS F))
theorem xcall (T : At X.K X.mg x f fd ps) (G : GOk X k f fd ps F) (hr : RoomG k X.A) (th : Th X E EX) (ms : List Bool) (ha : XA X E EX (e :: es) fas) (hg : Gl X x := by rfl) (hdb : (x == ("__debug__" : Str)) = false := by decide)
    (he : starEach (e :: es) X.env = (false, eval e X.env) :: starEach es X.env := by rfl) (hpl : (backTo pos (starEach es X.env)).any (·.1) = false := by rfl) : XE X E EX (.Call (.Name x p) (e :: es) [] pos) (fCall F ms fas) := by
  obtain ⟨W, tk, lk⟩ := th.w
  exact (de_call G hr hg T.mg T.kp T.b .nil (fun _ => .nil) lk (fun σ => passAt tk σ) ms ha hdb he hpl).mono fun ρ P hp => sem_mono (sem_bind.mp hp) fun rs ρ1 h1 => by
    obtain ⟨as, ρ2, is, e1, e2⟩ := callR_sem h1
    exact ⟨as, ρ2, is, e1, by rw [List.map_nil, List.append_nil]; exact e2⟩
theorem ocall (T : At X.K X.mg x f fd ps) (G : GOk X k f fd ps F) (hr : RoomG k X.A) (th : Th X E EX) (ms : List Bool) (ha : XA X E EX (e :: es) fas) (hg : Gl X x := by rfl) (hdb : (x == ("__debug__" : Str)) = false := by decide)
    (he : starEach (e :: es) X.env = (false, eval e X.env) :: starEach es X.env := by rfl) (hpl : (backTo pos (starEach es X.env)).any (·.1) = false := by rfl) : XO X E EX (.Call (.Name x p) (e :: es) [] pos) (fCallO F ms fas) := by
  obtain ⟨W, tk, lk⟩ := th.w
  exact (do_call G hr hg T.mg T.kp T.b .nil (fun _ => .nil) lk (fun σ => passAt tk σ) ms ha hdb he hpl).mono fun ρ P hp => sem_mono (sem_bind.mp hp) fun rs ρ1 h1 => by
    obtain ⟨as, ρ2, is, e1, e2⟩ := callO_sem h1
    exact ⟨as, ρ2, is, e1, by rw [List.map_nil, List.append_nil]; exact e2⟩
theorem xcall0 (T : At X.K X.mg x f fd ps) (G : GOk X k f fd ps F) (hr : RoomG k X.A) (th : Th X E EX) (hg : Gl X x := by rfl) (hdb : (x == ("__debug__" : Str)) = false := by decide) : XE X E EX (.Call (.Name x p) [] [] pos) (fCall F [] fNil) := by
  obtain ⟨W, tk, lk⟩ := th.w
  exact (de_call0 G hr hg T.mg T.kp T.b .nil (fun _ => .nil) lk (fun σ => passAt tk σ) hdb).mono fun ρ P hp => by
    obtain ⟨as, ρ2, is, e1, e2⟩ := callR_sem (EX := EX) (P := P) (ρ := ρ) (F := F) (ms := []) (rs := []) (k := fun d ρ3 => R.ok (Rf.val d) ρ3) hp
    exact ⟨as, ρ2, is, e1, by rw [List.map_nil, List.append_nil]; exact e2⟩
theorem ocall0 (T : At X.K X.mg x f fd ps) (G : GOk X k f fd ps F) (hr : RoomG k X.A) (th : Th X E EX) (hg : Gl X x := by rfl) (hdb : (x == ("__debug__" : Str)) = false := by decide) : XO X E EX (.Call (.Name x p) [] [] pos) (fCallO F [] fNil) := by
  obtain ⟨W, tk, lk⟩ := th.w
  exact (do_call0 G hr hg T.mg T.kp T.b .nil (fun _ => .nil) lk (fun σ => passAt tk σ) hdb).mono fun ρ P hp => by
    obtain ⟨as, ρ2, is, e1, e2⟩ := callO_sem (F := F) (ms := []) (rs := []) hp
    exact ⟨as, ρ2, is, e1, by rw [List.map_nil, List.append_nil]; exact e2⟩
theorem insOf_ok {d : D} (h : insOf C m d = true) : ∃ fs, d = .ins C fs ∧ fs.lookup m = none := by
  cases d with
  | ins C' fs =>
    have h' := of_decide_eq_true h
    exact ⟨fs, by rw [h'.1], h'.2⟩
  | _ => cases h
theorem xmeth {pl : Sem Bool} (T : MAt X.K C m f fd ps) (c : Cls X.K C) (G : GOk X k f fd ps F) (hr : RoomG k X.A) (th : Th X E EX) (ms : List Bool) (he : XE X E EX o fa) (ha : XA X E EX (e :: es) fas)
    (ht : eval (.Call (.Attribute o m apos) (e :: es) [] pos) X.env = (do
      let ov ← eval o X.env
      standAt apos.atName
      let (f, first) ← holding [ov] (getMethod ov m pl)
      callWith pos f first (backTo pos (starEach (e :: es) X.env)) (backToKw pos (keywordEach [] X.env))) := by rfl)
    (hst : starEach (e :: es) X.env = (false, eval e X.env) :: starEach es X.env := by rfl) (hpl : (backTo pos (starEach es X.env)).any (·.1) = false := by rfl) :
    XE X E EX (.Call (.Attribute o m apos) (e :: es) [] pos) (fMeth C m F ms fa fas) := by
  obtain ⟨W, tk, lk⟩ := th.w
  exact (de_meth he c T.m G hr T.b .nil (fun _ => .nil) lk (fun σ => passAt tk σ) ms ha ht hst hpl).mono fun ρ P hp => sem_mono (sem_bind.mp hp) fun r0 ρ1 h1 => by
    obtain ⟨d, e1, h2⟩ := sem_ob.mp h1
    obtain ⟨hi, h3⟩ := sem_ifno.mp h2
    obtain ⟨fs, hd, hl⟩ := insOf_ok hi
    subst hd
    refine ⟨⟨fs, e1, hl⟩, sem_mono (sem_bind.mp h3) fun rs ρ2 h4 => ?_⟩
    obtain ⟨as, ρ2, is, e1, e2⟩ := callR_sem h4
    exact ⟨as, ρ2, is, e1, by rw [List.map_nil, List.append_nil]; exact e2⟩
theorem xmeth0 {pl : Sem Bool} (T : MAt X.K C m f fd ps) (c : Cls X.K C) (G : GOk X k f fd ps F) (hr : RoomG k X.A) (th : Th X E EX) (ms : List Bool) (he : XE X E EX o fa)
    (ht : eval (.Call (.Attribute o m apos) [] [] pos) X.env = (do
      let ov ← eval o X.env
      standAt apos.atName
      let (f, first) ← holding [ov] (getMethod ov m pl)
      callWith pos f first (backTo pos (starEach [] X.env)) (backToKw pos (keywordEach [] X.env))) := by rfl) :
    XE X E EX (.Call (.Attribute o m apos) [] [] pos) (fMeth C m F ms fa fNil) := by
  obtain ⟨W, tk, lk⟩ := th.w
  exact (de_meth0 he c T.m G hr T.b .nil (fun _ => .nil) lk (fun σ => passAt tk σ) ms ht).mono fun ρ P hp => sem_mono (sem_bind.mp hp) fun r0 ρ1 h1 => by
    obtain ⟨d, e1, h2⟩ := sem_ob.mp h1
    obtain ⟨hi, h3⟩ := sem_ifno.mp h2
    obtain ⟨fs, hd, hl⟩ := insOf_ok hi
    subst hd
    refine ⟨⟨fs, e1, hl⟩, ?_⟩
    obtain ⟨as, ρ2, is, e1, e2⟩ := callR_sem (EX := EX) (P := P) (ρ := ρ1) (F := F) (ms := ms) (rs := [r0]) (k := fun d ρ3 => R.ok (Rf.val d) ρ3) h3
    exact ⟨as, ρ2, is, e1, by rw [List.map_nil, List.append_nil]; exact e2⟩
/-- the fields, methods known by class -/
theorem xprop (T : PAt X.K C m q g fd ps) (c : Cls X.K C) (G : FnG X.prog X.w X.K X.mg X.base CX0 k g fd ps (liftSp (fnN F))) (hr : RoomG (k + 1) X.A) (he : XE X E EX e fe) (hab : attributeBase e m X.env (eval e X.env) = eval e X.env := by rfl) : XE X E EX (.Attribute e m pos) (fProp C F fe) :=
  (de_prop he c T.p G hr T.b hab).mono fun ρ P hp => sem_mono (sem_bind.mp hp) fun r ρ1 h1 => by
    obtain ⟨d, e1, h2⟩ := sem_ob.mp h1
    obtain ⟨hi, h3⟩ := sem_ifno.mp h2
    obtain ⟨z, e2, h4⟩ := sem_ob.mp h3
    obtain ⟨fs, hd⟩ := isC_ins hi
    refine ⟨d.1, d.2, fs, e1, hd, ?_⟩
    unfold fnN
    unfold FR.pure at e2
    split at e2 <;> rename_i q
    · cases e2; rw [q]; exact ⟨_, rfl, h4⟩
    · cases e2; rw [q]; exact ⟨_, rfl, h4⟩
    · cases e2
end
end
end DL
/-! FL4: keywords, instances, own operators, loops, statements, defs. -/
namespace DL
open PySem L2 PySem.Spec PyProof.Rows
open D (blsOf strsOf intsOf)
section
variable {X : Cx} {E : En} {EX : DX} {e a b c o : Expr} {es : List Expr} {pos apos p p2 kpos : Pos} {fa fb fc fe : FE} {fr fas fks : FA} {fo : FW} {ft fu : FT} {fi : FI} {x m : Str} {K : PySem.W.Frag}
variable {f g C q : Addr} {fd : FuncData} {k : Nat} {ps ks : List Str} {F : FF} {n : Nat} {is : List Nat} {kws : List Keyword} {nm : Option Str}
/-! keywords -/
theorem knil : XK' X E EX [] fNil := dk_nil.mono fun ρ P hp => hp
theorem kcons (h : XE X E EX e fe) (hr : XK' X E EX kws fks) : XK' X E EX (⟨nm, e, kpos⟩ :: kws) (fCons fe fks) := (dk_cons h hr).mono fun ρ P hp => sem_mono (sem_bind.mp hp) fun r ρ1 h1 => sem_bind.mp h1
theorem xkw (T : At X.K X.mg x f fd ps) (G : GOk X k f fd ps F) (hr : RoomG k X.A) (th : Th X E EX) (hb : KB X.K fd ps ks n is) (ms : List Bool)
    (ha : XA X E EX (e :: es) fas) (hkw : XK' X E EX kws fks) (hg : Gl X x := by rfl) (hall : (backToKw pos (keywordEach kws X.env)).all (·.1.isSome) = true := by rfl) (hks : (backToKw pos (keywordEach kws X.env)).filterMap (·.1) = ks := by rfl)
    (hdb : (x == ("__debug__" : Str)) = false := by decide) (he : starEach (e :: es) X.env = (false, eval e X.env) :: starEach es X.env := by rfl)
    (hpl : ((backTo pos (starEach (e :: es) X.env)).any (·.1) || (backToKw pos (keywordEach kws X.env)).any (·.1.isNone)) = false := by rfl) :
    XE X E EX (.Call (.Name x p) (e :: es) kws pos) (fKw F ms n ks.length is fas fks) := by
  obtain ⟨W, tk, lk⟩ := th.w
  exact (de_callKw G hr hg T.mg T.kp hb lk (fun σ => passAt tk σ) ms ha hkw hall hks hdb he hpl).mono fun ρ P hp => sem_mono (sem_bind.mp hp) fun rs ρ1 h1 => by
    obtain ⟨hn, h2⟩ := sem_ifno.mp h1
    refine ⟨hn, sem_mono (sem_bind.mp h2) fun qs ρ2 h3 => ?_⟩
    obtain ⟨hk, h4⟩ := sem_ifno.mp h3
    exact ⟨hk, callR_sem h4⟩
theorem xkw0 (T : At X.K X.mg x f fd ps) (G : GOk X k f fd ps F) (hr : RoomG k X.A) (th : Th X E EX) (hb : KB X.K fd ps ks 0 is) (ms : List Bool)
    (hkw : XK' X E EX kws fks) (hg : Gl X x := by rfl) (hall : (backToKw pos (keywordEach kws X.env)).all (·.1.isSome) = true := by rfl) (hks : (backToKw pos (keywordEach kws X.env)).filterMap (·.1) = ks := by rfl)
    (hdb : (x == ("__debug__" : Str)) = false := by decide) (hpl : ((backTo pos (starEach [] X.env)).any (·.1) || (backToKw pos (keywordEach kws X.env)).any (·.1.isNone)) = false := by rfl) :
    XE X E EX (.Call (.Name x p) [] kws pos) (fKw F ms 0 ks.length is fNil fks) := by
  obtain ⟨W, tk, lk⟩ := th.w
  exact (de_callKw0 G hr hg T.mg T.kp hb lk (fun σ => passAt tk σ) ms hkw hall hks hdb hpl).mono fun ρ P hp => by
    refine ⟨rfl, sem_mono (sem_bind.mp hp) fun qs ρ2 h3 => ?_⟩
    obtain ⟨hk, h4⟩ := sem_ifno.mp h3
    exact ⟨hk, callR_sem h4⟩
theorem xmethkw {pl : Sem Bool} (T : MAt X.K C m f fd ps) (c : Cls X.K C) (G : GOk X k f fd ps F) (hr : RoomG k X.A) (th : Th X E EX) (hb : KB X.K fd ps ks 1 is) (ms : List Bool) (he : XE X E EX o fa) (hkw : XK' X E EX kws fks)
    (ht : eval (.Call (.Attribute o m apos) [] kws pos) X.env = (do
      let ov ← eval o X.env
      standAt apos.atName
      let (f, first) ← holding [ov] (getMethod ov m pl)
      callWith pos f first (backTo pos (starEach [] X.env)) (backToKw pos (keywordEach kws X.env))) := by rfl)
    (hall : (backToKw pos (keywordEach kws X.env)).all (·.1.isSome) = true := by rfl) (hks : (backToKw pos (keywordEach kws X.env)).filterMap (·.1) = ks := by rfl)
    (hpl : ((backTo pos (starEach [] X.env)).any (·.1) || (backToKw pos (keywordEach kws X.env)).any (·.1.isNone)) = false := by rfl) :
    XE X E EX (.Call (.Attribute o m apos) [] kws pos) (fMethKw C m F ms ks.length is fa fks) := by
  obtain ⟨W, tk, lk⟩ := th.w
  exact (de_methKw he c T.m G hr hb lk (fun σ => passAt tk σ) ms hkw ht hall hks hpl).mono fun ρ P hp => sem_mono (sem_bind.mp hp) fun r0 ρ1 h1 => by
    obtain ⟨d, e1, h2⟩ := sem_ob.mp h1
    obtain ⟨hi, h3⟩ := sem_ifno.mp h2
    obtain ⟨fs, hd, hl⟩ := insOf_ok hi
    subst hd
    refine ⟨⟨fs, e1, hl⟩, sem_mono (sem_bind.mp h3) fun qs ρ2 h4 => ?_⟩
    obtain ⟨hk, h5⟩ := sem_ifno.mp h4
    exact ⟨hk, callR_sem h5⟩
/-! instances made -/
def mkK (EX : DX) (ρ2 : DEnv) (P : D → DEnv → Prop) : FR → Prop
  | .rt d ns => d = .non ∧ ∃ d', ns = [d'] ∧ P d' ρ2
  | .ro _ _ => False
  | .ex c d _ => EX c d ρ2
  | .no => False
theorem made_sem {y : FR} {ρ2 : DEnv} {P : D → DEnv → Prop} (h : (match y.made with
    | .ok d' _ => R.ok d' ρ2
    | .ex c d _ => .ex c d ρ2
    | .no => .no).sem EX P) : mkK EX ρ2 P y := by
  cases y with
  | rt d ns =>
    cases d with
    | non => exact match ns, h with
      | [], h => h.elim
      | [d'], h => ⟨rfl, d', rfl, h⟩
      | _ :: _ :: _, h => h.elim
    | _ => exact h.elim
  | ro d ns => exact h
  | ex c d ns => exact h
  | no => exact h
theorem omake (T : CAt X.K X.mg x C f fd ps) (G : GOk X k f fd ps F) (hr : RoomG (k + 1) X.A) (th : Th X E EX) (ha : XA X E EX (e :: es) fas) (hg : Gl X x := by rfl) (hdb : (x == ("__debug__" : Str)) = false := by decide)
    (he : starEach (e :: es) X.env = (false, eval e X.env) :: starEach es X.env := by rfl) (hpl : (backTo pos (starEach es X.env)).any (·.1) = false := by rfl) : XO X E EX (.Call (.Name x p) (e :: es) [] pos) (fMake C F fas) := by
  obtain ⟨W, tk, lk⟩ := th.w
  exact (do_make T.make G hr hg T.mg T.b .nil (fun _ => .nil) lk (fun σ => passAt tk σ) ha hdb he hpl).mono fun ρ P hp => sem_mono (sem_bind.mp hp) fun rs ρ1 h1 => by
    obtain ⟨q, e1, h2⟩ := sem_ob.mp h1
    refine ⟨q.1, q.2, e1, ?_⟩
    rw [List.map_nil, List.append_nil]
    have h3 := made_sem h2
    unfold fnS
    cases z : F (DV.bw (D.ins C []) :: List.map DV.fz q.1) <;> rw [z] at h3 <;> exact h3
/-! own operators -/
theorem o_none {op : Operator} : OpF X op (fun _ _ => none) := ⟨fun _ _ _ _ => False, fun _ _ _ => False, by intro; intros; exact (by assumption : False).elim, by intro; intros; exact (by assumption : False).elim, fun _ _ _ h => by cases h⟩
theorem own_sem {g : D → D → Option D} {G : D → D → D → Prop} {FL FR' : FF} (hg : ∀ a b d, g a b = some d → G a b d) {ρ : DEnv} {P : Rf → DEnv → Prop} (hp : (fOwn g C FL FR' fa fb ρ).sem EX P) :
    mOp G (lif EX fa) (lif EX fb) ρ P ∨ mOwn C (fnS FL) (fnS FR') EX (lif EX fa) (lif EX fb) ρ P := by
  have h0 := sem_bind.mp hp
  unfold mOp mOwn lif
  cases e1 : fa ρ with
  | no => rw [e1] at h0; exact h0.elim
  | ex c d ρ1 => rw [e1] at h0; exact .inl h0
  | ok r1 ρ1 =>
    rw [e1] at h0
    have h1 : ((fb ρ1).bind fun r2 ρ2 => ob (r1.get ρ2) fun d1 => ob (r2.get ρ2) fun d2 =>
      if isC C d1 = true then (if (isC C d2 || isI d2) = true then callR FL [false, false] [r1, r2] ρ2 fun d ρ3 => R.ok (Rf.val d) ρ3 else .no)
      else if isC C d2 = true then (if isI d1 = true then callR FR' [false, false] [r2, r1] ρ2 fun d ρ3 => .ok (.val d) ρ3 else .no)
      else ob (g d1 d2) fun d => .ok (.val d) ρ2).sem EX P := h0
    have h2 := sem_bind.mp h1
    show ((fb ρ1).sem EX _ ∨ (fb ρ1).sem EX _)
    cases e2 : fb ρ1 with
    | no => rw [e2] at h2; exact h2.elim
    | ex c d ρ2 => rw [e2] at h2; exact .inl h2
    | ok r2 ρ2 =>
      rw [e2] at h2
      obtain ⟨d1, g1, h3⟩ := sem_ob.mp h2
      obtain ⟨d2, g2, h4⟩ := sem_ob.mp h3
      by_cases c1 : isC C d1 = true
      · rw [if_pos c1] at h4
        obtain ⟨c2, h5⟩ := sem_ifno.mp h4
        exact .inr ⟨d1, d2, g1, g2, .inl ⟨c1, c2, callR_sem h5⟩⟩
      · rw [if_neg c1] at h4
        by_cases c2 : isC C d2 = true
        · rw [if_pos c2] at h4
          obtain ⟨c3, h5⟩ := sem_ifno.mp h4
          exact .inr ⟨d1, d2, g1, g2, .inr ⟨c3, c2, callR_sem h5⟩⟩
        · rw [if_neg c2] at h4
          obtain ⟨d, e, h5⟩ := sem_ob.mp h4
          exact .inl ⟨d1, d2, d, g1, g2, hg _ _ _ e, h5⟩
theorem xown {op : Operator} {gn : D → D → Option D} {fdl fdr : FuncData} {psl psr : List Str} {kl kr : Nat} {FL FR' : FF} (hn : OpF X op gn) (T : OwnR X.K C op f g) (hi : IntOp op) (GL : GOk X kl f fdl psl FL) (GR : GOk X kr g fdr psr FR') (hrl : RoomG kl X.A) (hrr : RoomG kr X.A) (hbl : Binds X.K fdl psl []) (hbr : Binds X.K fdr psr [])
    (th : Th X E EX) (ha : XE X E EX a fa) (hb : XE X E EX b fb) : XE X E EX (.BinOp a op b pos) (fOwn gn C FL FR' fa fb) := by
  obtain ⟨W, tk, lk⟩ := th.w
  obtain ⟨r, G, h1, h2, h3⟩ := hn.ex
  exact ((de_op h1 h2 ha hb).or (de_own T hi GL GR hrl hrr hbl hbr lk (fun σ => passAt tk σ) (fun σ => passAt tk σ) ha hb)).mono fun ρ P hp => own_sem h3 hp
theorem noF_sp {as : List DV} {K : DK} : ¬ fnS noF as K := fun h => h
theorem xownL {op : Operator} {gn : D → D → Option D} {fdl : FuncData} {psl : List Str} {kl : Nat} {FL : FF} (hn : OpF X op gn) (T : OwnL X.K C op f) (GL : GOk X kl f fdl psl FL) (hrl : RoomG kl X.A) (hbl : Binds X.K fdl psl [])
    (th : Th X E EX) (ha : XE X E EX a fa) (hb : XE X E EX b fb) : XE X E EX (.BinOp a op b pos) (fOwn gn C FL noF fa fb) := by
  obtain ⟨W, tk, lk⟩ := th.w
  obtain ⟨r, G, h1, h2, h3⟩ := hn.ex
  refine ((de_op h1 h2 ha hb).or (de_ownL T GL hrl hbl lk (fun σ => passAt tk σ) ha hb)).mono fun ρ P hp => (own_sem h3 hp).imp id fun h => ?_
  exact sem_mono h fun r1 ρ1 h => sem_mono h fun r2 ρ2 ⟨d1, d2, g1, g2, h⟩ => ⟨d1, d2, g1, g2, h.imp id fun ⟨c1, c2, as, ρ3, is, hh, hs⟩ => ⟨c1, c2, as, ρ3, is, hh, noF_sp hs⟩⟩
theorem xinv {kl : Nat} {fdl : FuncData} {psl : List Str} (hs : PySem.W.findIn X.K (.ref C) "__invert__" = some (some (.ref f))) (hf : PySem.W.isFn X.K (.ref f) = true) (G : GOk X kl f fdl psl F) (hr : RoomG kl X.A) (hb : Binds X.K fdl psl []) (th : Th X E EX) (ha : XE X E EX a fa) : XE X E EX (.UnaryOp .Invert a pos) (fInv C F fa) := by
  obtain ⟨W, tk, lk⟩ := th.w
  exact (de_inv hs hf G hr hb lk (fun σ => passAt tk σ) ha).mono fun ρ P hp => sem_mono (sem_bind.mp hp) fun r ρ1 h1 => by
    obtain ⟨d, e1, h2⟩ := sem_ob.mp h1
    obtain ⟨hc, h3⟩ := sem_ifno.mp h2
    obtain ⟨as, ρ2, is, e2, e3⟩ := callR_sem h3
    exact ⟨d, as, ρ2, is, e1, hc, e2, e3⟩
/-! dict displays -/
theorem odict0 : XO X E EX (.Dict [] [] pos) fDict0 := do_dict0.mono fun ρ P hp => hp
theorem pairs_sem : ∀ {ms : List (FE × FE)} {ρ : DEnv} {P : List (Rf × Rf) → DEnv → Prop}, (fPairs ms ρ).sem EX P → mPairs (ms.map fun m => (lif EX m.1, lif EX m.2)) ρ P
  | [], ρ, P, h => h
  | (a, b) :: r, ρ, P, h => sem_mono (sem_bind.mp h) fun x ρ1 h1 => sem_mono (sem_bind.mp h1) fun y ρ2 h2 => pairs_sem (sem_bind.mp h2)
abbrev XPs (X : Cx) (pos : Pos) (ks : List (Option Expr)) (vs : List Expr) (ms : List (FE × FE)) : Prop := DPs X pos ks vs (ms.map fun m => (lif noX m.1, lif noX m.2))
theorem psnil : XPs X pos [] [] [] := dps_nil
theorem pscons {kx : Expr} {v : Expr} {ks : List (Option Expr)} {vs : List Expr} {ms : List (FE × FE)} (hk : ∀ E, XE X E noX kx fa) (hv : ∀ E, XE X E noX v fb) (hr : XPs X pos ks vs ms) : XPs X pos (some kx :: ks) (v :: vs) ((fa, fb) :: ms) := dps_cons hk hv hr
theorem odict {ks : List (Option Expr)} {vs : List Expr} {ms : List (FE × FE)} (h : XPs X pos ks vs ms) (hall : ks.all (·.isSome) = true := by rfl) (hl : ks.length = vs.length := by rfl) (h0 : ks ≠ [] := by simp) (h15 : ks.length ≤ 15 := by decide) : XO X E EX (.Dict ks vs pos) (fDict ms) :=
  (do_dict h hall hl h0 h15).mono fun ρ P hp => pairs_sem (sem_mono (sem_bnd hp (EX' := noX)) fun ps ρ1 h1 => by
    obtain ⟨kk, e1, h2⟩ := sem_ob.mp h1
    obtain ⟨q, e2, h3⟩ := sem_ob.mp h2
    obtain ⟨hl, h4⟩ := sem_ifno.mp h3
    exact ⟨hl, kk, q.1, q.2, e1, e2, h4⟩)
end
/-! ### iterables, targets, comprehensions -/
section
variable {X : Cx} {E : En} {EX : DX} {e a b c o tg iter elt : Expr} {es ifs : List Expr} {pos apos p p2 : Pos} {fa fb fc fe fm : FE} {fr fas fks : FA} {fo : FW} {ft fu : FT} {fi : FI} {x m : Str} {K : PySem.W.Frag}
theorem iany (h : XE X E EX e fe) : XI X E EX tg e (fIter fe) := (di_any h).mono fun ρ P hp => sem_mono (sem_bind.mp hp) fun r ρ1 h1 => by
  obtain ⟨q, e1, h2⟩ := sem_ob.mp h1
  obtain ⟨ds, e2, h3⟩ := sem_ob.mp h2
  refine ⟨_, ds, q.2, .inl ⟨q.1, e1, ?_, rfl⟩, h3⟩
  unfold itemsD at e2
  split at e2 <;> rename_i z
  · cases e2; exact .inl z
  · cases e2; exact .inr (.inl z)
  · cases e2; exact .inr (.inr ⟨_, z, rfl⟩)
  · cases e2
theorem irng1 {p : Pos} (hg : Gl X "range") (hm : X.mg "range" = none) (ha : XA X E EX [a] fas) (hs : starEach [a] X.env = [(false, eval a X.env)] := by rfl) : XI X E EX tg (.Call (.Name "range" p) [a] [] pos) (fRng1 fas) := (di_rng1 hg hm ha hs).mono fun ρ P hp => sem_mono (sem_bind.mp hp) fun rs ρ1 h1 => by
  obtain ⟨ds, e1, h2⟩ := sem_ob.mp h1
  split at h2
  · obtain ⟨hb, h3⟩ := sem_ifno.mp h2
    exact ⟨_, e1, hb.1, hb.2, h3⟩
  · exact h2.elim
theorem irng2 {p : Pos} (hg : Gl X "range") (hm : X.mg "range" = none) (ha : XA X E EX [a, b] fas) (hs : starEach [a, b] X.env = [(false, eval a X.env), (false, eval b X.env)] := by rfl) (hs2 : starEach [b] X.env = [(false, eval b X.env)] := by rfl) : XI X E EX tg (.Call (.Name "range" p) [a, b] [] pos) (fRng2 fas) := (di_rng2 hg hm ha hs hs2).mono fun ρ P hp => sem_mono (sem_bind.mp hp) fun rs ρ1 h1 => by
  obtain ⟨ds, e1, h2⟩ := sem_ob.mp h1
  split at h2
  · obtain ⟨hb, h3⟩ := sem_ifno.mp h2
    exact ⟨_, _, e1, hb, h3⟩
  · exact h2.elim
/-- enumerate, zip, behind the rules of the layer below -/
theorem ienum (q : ∀ {m : MA}, DA X E [a] m → DI X E tg e (mEnum m)) (ha : XA X E EX [a] fas) : XI X E EX tg e (fEnum fas) := (q ha).mono fun ρ P hp => sem_mono (sem_bind.mp hp) fun rs ρ1 h1 => by
  match rs, h1 with
  | [], h1 => exact h1.elim
  | [r], h1 =>
    obtain ⟨y, e1, h2⟩ := sem_ob.mp h1
    obtain ⟨y1, y2⟩ := y
    cases y1 <;> first | exact ⟨r, _, _, rfl, e1, h2⟩ | exact h2.elim
  | _ :: _ :: _, h1 => exact h1.elim
theorem izip (q : ∀ {m : MA}, DA X E [a, b] m → DI X E tg e (mZip m)) (ha : XA X E EX [a, b] fas) : XI X E EX tg e (fZip fas) := (q ha).mono fun ρ P hp => sem_mono (sem_bind.mp hp) fun rs ρ1 h1 => by
  match rs, h1 with
  | [], h1 => exact h1.elim
  | [_], h1 => exact h1.elim
  | [r1, r2], h1 =>
    obtain ⟨y, e1, h2⟩ := sem_ob.mp h1
    obtain ⟨u, e2, h3⟩ := sem_ob.mp h2
    obtain ⟨y1, y2⟩ := y
    obtain ⟨u1, u2⟩ := u
    cases y1 <;> first | exact h3.elim | (cases u1 <;> first | exact h3.elim | exact ⟨r1, r2, _, _, _, _, rfl, e1, e2, h3⟩)
  | _ :: _ :: _ :: _, h1 => exact h1.elim
theorem gname {i : Nat} {x : Str} (h : PG X (.Name x pos) (gName i)) : XG X E (.Name x pos) (gS1 i) := (dg_name h).mono fun d ρ Q ⟨ρ', e, h⟩ => by
  cases e
  exact h
theorem gnil : XGs X E [] gN0 := dgs_nil.mono fun ds ρ Q ⟨ρ', e, h⟩ => by
  cases ds with
  | nil => cases e; exact ⟨rfl, h⟩
  | cons _ _ => cases e
theorem gcons {g : FG} {h : FGs} (h1 : XG X E e g) (h2 : XGs X E es h) (hs : (assignEach (e :: es) X.env).map (·.2) = assign e X.env :: (assignEach es X.env).map (·.2) := by rfl) : XGs X E (e :: es) (gC1 g h) := (dgs_cons h1 h2 hs).mono fun ds ρ Q ⟨ρ', e, h⟩ => by
  cases ds with
  | nil => cases e
  | cons d r =>
    simp only [gC1, Option.bind_eq_some_iff] at e
    obtain ⟨ρ1, e1, e2⟩ := e
    exact ⟨d, r, rfl, ρ1, e1, ρ', e2, h⟩
theorem gtup {k n : Nat} {h : FGs} (hc : X.calm = true) (hh : XGs X E es h) (hn : (assignEach es X.env).length = n := by rfl) (hst : (assignEach es X.env).findIdx? (·.1) = none := by rfl) : XG X E (.Tuple es k pos) (gT1 n h) := (dg_tup hc hh hn hst).mono fun d ρ Q ⟨ρ', e, hq⟩ => by
  cases d with
  | tup ds =>
    simp only [gT1] at e
    split at e
    · exact ⟨ds, rfl, by assumption, ρ', e, hq⟩
    · cases e
  | _ => cases e
theorem lcL_sem {vs : List Nat} {g : FG} {Q : D → DEnv → Prop} : ∀ {ds acc : List D} {ρ : DEnv}, (lcL vs g ft fm ds acc ρ).sem EX Q → mLcL (fun _ => True) vs (lifG g) (lif noX ft) (lif noX fm) Q ds acc ρ
  | [], acc, ρ, h => ⟨trivial, h⟩
  | d :: r, acc, ρ, h => by
    obtain ⟨ρ1, e1, h1⟩ := sem_ob.mp h
    refine ⟨trivial, ρ1, e1, sem_mono (sem_bnd h1 (EX' := noX)) fun c ρ2 h2 => ?_⟩
    cases c with
    | true =>
      refine sem_mono (sem_bnd h2 (EX' := noX)) fun rf ρ3 h3 => ?_
      obtain ⟨q, e2, h4⟩ := sem_ob.mp h3
      obtain ⟨hl, h5⟩ := sem_ifno.mp h4
      exact ⟨q.1, q.2, e2, hl, lcL_sem h5⟩
    | false => exact lcL_sem h2
theorem TgD.mono {vs : List Nat} {g : TG} {m m' : MG} (h : TgD vs g m) (f : ∀ d ρ Q, m' d ρ Q → m d ρ Q) : TgD vs g m' := ⟨fun E F H σ ρ v d P Q S r hp k => h.run E F H σ ρ v d P Q S r (f _ _ _ hp) k⟩
structure TgF (vs : List Nat) (g : TG) (h : FG) : Prop where
  ok : TgD vs g (lifG h)
structure TgsF (vs : List Nat) (g : TGs) (h : FGs) : Prop where
  ok : ∀ (E : En) (F : Fz) (H : Hp) (σ : L2.St) (ρ : DEnv) (v : List V) (d : List D) (P : DEnv → Prop) (Q : L2.St → Hp → Prop), SR E F H σ ρ → Reps F v d → lifGs h d ρ P → (∀ ρ' σ', P ρ' → SR E F H σ' ρ' → wipe σ' vs = wipe σ vs → Q σ' H) → g v σ H Q
theorem tgname {vs : List Nat} {i : Nat} (h : i ∈ vs) : TgF vs (gName i) (gS1 i) := ⟨(tgd_name h).mono fun d ρ Q ⟨ρ', e, h⟩ => by
  cases e
  exact h⟩
theorem tgnil {vs : List Nat} : TgsF vs gNil gN0 := ⟨fun E F H σ ρ v d P Q S r ⟨ρ', e, hp⟩ k => tgsd_nil.run E F H σ ρ v d P Q S r (by
  cases d with
  | nil => cases e; exact ⟨rfl, hp⟩
  | cons _ _ => cases e) k⟩
theorem tgcons {vs : List Nat} {g : TG} {gs : TGs} {h : FG} {hs : FGs} (h1 : TgF vs g h) (h2 : TgsF vs gs hs) : TgsF vs (gCons g gs) (gC1 h hs) := ⟨fun E F H σ ρ v d P Q S r ⟨ρ', e, hp⟩ k => by
  cases d with
  | nil => cases e
  | cons d0 dr =>
    simp only [gC1, Option.bind_eq_some_iff] at e
    obtain ⟨ρ1, e1, e2⟩ := e
    cases r with
    | cons r rr => exact ⟨_, _, rfl, h1.ok.run E F H σ ρ _ _ (fun ρ'' => ρ'' = ρ1) _ S r ⟨ρ1, e1, rfl⟩ fun ρ2 σ1 z S1 w1 => by
        subst z
        exact h2.ok E F H σ1 ρ2 _ _ P _ S1 rr ⟨ρ', e2, hp⟩ fun ρ3 σ2 h3 S2 w2 => k _ _ h3 S2 (w2.trans w1)⟩⟩
theorem tgtup {vs : List Nat} {n : Nat} {gs : TGs} {hs : FGs} (h : TgsF vs gs hs) : TgF vs (gTup K n gs) (gT1 n hs) := ⟨⟨fun E F H σ ρ v d P Q S r ⟨ρ', e, hp⟩ k => by
  cases d with
  | tup ds =>
    simp only [gT1] at e
    split at e
    · cases r with
      | tup hF rs => exact ⟨_, _, rfl, .inl (S.hard hF), by rw [rs.length]; assumption, h.ok E F H σ ρ _ _ _ _ S rs ⟨ρ', e, hp⟩ k⟩
    · cases e
  | _ => cases e⟩⟩
abbrev XTs (X : Cx) (E : En) (ifs : List Expr) (f : FT) : Prop := DTs X E ifs (lif noX f)
theorem tsnil : XTs X E [] fYes := PTs.to dts_nil fun σ H Q h => h
theorem tsone (h : XT X E noX c ft) : XTs X E [c] ft := dts_one h
theorem lc_sem {vs : List Nat} {g : FG} {ρ : DEnv} {P : D → DEnv → Prop} (hp : (fLc fi vs g ft fm ρ).sem EX P) : mLc (lifI EX fi) vs (lifG g) (lif noX ft) (lif noX fm) ρ P :=
  sem_mono (sem_bind.mp hp) fun ds ρ1 h1 => lcL_sem h1
theorem olc (own : List (Str × Nat)) {vs : List Nat} {scope : Scope} {g : TG} {h : FG} (hc : X.calm = true) (hN : X.N.Nodup) (hi : XI X E EX tg iter fi) (ok : BlkOk X.N X.env.scope scope own) (tgd : TgF vs g h)
    (hg : ∀ (s : Shared) (H : Hp) (C : Addr) (cl : List (Str × Addr)) (fp : List Addr), PG (X.blk s H scope (compEnvC scope cl C X.env) fp) tg g)
    (ht : ∀ (s : Shared) (H : Hp) (C : Addr) (cl : List (Str × Addr)) (fp : List Addr) (E' : En), XTs (X.blk s H scope (compEnvC scope cl C X.env) fp) E' ifs ft)
    (he : ∀ (s : Shared) (H : Hp) (C : Addr) (cl : List (Str × Addr)) (fp : List Addr) (E' : En), XE (X.blk s H scope (compEnvC scope cl C X.env) fp) E' noX elt fm) (hv : own.map (·.2) = vs := by rfl) (hs : ∀ x, foldedSetIterable iter X.env x = pure x := by intro _; rfl) :
    XO X E EX (.ListComp elt [⟨tg, iter, ifs, 0⟩] scope pos) (fLc fi vs h ft fm) := by
  subst hv
  exact (do_lc hc hN hi ok tgd.ok hg ht he hs).mono fun ρ P hp => lc_sem hp
/-! ### statements -/
variable {st : Stmt} {rest body sx sy : List Stmt} {fs fs' : FS} {i : Nat}
theorem ssnil : XSs X E EX [] fSkip := dss_nil.mono fun K ρ hp => hp
theorem sscons (h1 : XS X E EX st fs) (h2 : XSs X E EX rest fs') : XSs X E EX (st :: rest) (fSeq fs fs') := (dss_cons h1 h2).mono fun K ρ hp => sem_seq.mp hp
theorem ssone (h1 : XS X E EX st fs) : XSs X E EX [st] fs := dss_one h1
theorem spass : XS X E EX (.Pass pos) fSkip := ds_pass.mono fun K ρ hp => hp
theorem sbreak : XS X E EX (.Break pos) fBrk := ds_break.mono fun K ρ hp => hp
theorem scontinue : XS X E EX (.Continue pos) fCnt := ds_continue.mono fun K ρ hp => hp
theorem snever : XS X E EX st fNever := ds_never.mono fun K ρ hp => hp
theorem sexpr (h : XE X E EX e fe) (hs : swapsWith e none pos.line X.env = pure false := by rfl) : XS X E EX (.Expr e pos) (fDrop fe) := (ds_expr h hs).mono fun K ρ hp => sem_z.mp hp
theorem sret (h : XE X E EX e fe) : XS X E EX (.Return (some e) pos) (fRet fe) := (ds_ret h).mono fun K ρ hp => sem_mono (sem_z.mp hp) fun r ρ1 h1 => by
  obtain ⟨q, e1, h2⟩ := sem_oz.mp h1
  exact ⟨q.1, q.2, e1, h2⟩
theorem sretN : XS X E EX (.Return none pos) fRetN := ds_retN.mono fun K ρ hp => hp
theorem sretO (h : XO X E EX e fo) : XS X E EX (.Return (some e) pos) (fRetO fo) := (ds_retO h).mono fun K ρ hp => sem_z.mp hp
theorem sretV {y : Str} {p : Pos} (h : PE X (.Name y p) (tVar i)) : XS X E EX (.Return (some (.Name y p)) pos) (fRetV i) := ((ds_retV h).or (ds_ret (de_var h))).mono fun K ρ hp => by
  have hp' : (fRetV i ρ).sem EX K := hp
  unfold fRetV at hp'
  split at hp' <;> rename_i z
  · exact .inl ⟨_, z, hp'⟩
  · refine .inr ⟨⟨_, z⟩, _, ρ, ?_, hp'⟩
    simp [esc, z]
  · exact hp'.elim
theorem sif (hc : XT X E EX c ft) (ha : XSs X E EX sx fs) (hb : XSs X E EX sy fs') : XS X E EX (.If c sx sy pos) (fIf ft fs fs') := (ds_if hc ha hb).mono fun K ρ hp => sem_mono (sem_z.mp hp) fun c ρ1 h1 => by
  cases c <;> exact h1
theorem sset {g : FG} (he : XE X E EX e fe) (hg : XG X E tg g) (hs : swapsWithSole [tg] e pos.line X.env = pure false := by rfl) (hw : swappedStores [tg] e X.env = pure none := by rfl) (h1 : (assignEach [tg] X.env).map (·.2) = [assign tg X.env] := by rfl) : XS X E EX (.Assign [tg] e pos) (fSet fe g) := (ds_asg he hg hs hw h1).mono fun K ρ hp => sem_mono (sem_z.mp hp) fun r ρ1 h1 => by
  obtain ⟨q, e1, h2⟩ := sem_oz.mp h1
  obtain ⟨ρ2, e2, h3⟩ := sem_oz.mp h2
  exact ⟨q.1, q.2, e1, ρ2, e2, h3⟩
theorem sseto {y : Str} {p : Pos} (h : ∀ {te : TE}, PE X e te → PS X (.Assign [.Name y p] e pos) (tAsg te (gName i))) (he : XO X E EX e fo) : XS X E EX (.Assign [.Name y p] e pos) (fSetO i fo) := (ds_setO (h he)).mono fun K ρ hp => sem_z.mp hp
theorem ssetlc (own : List (Str × Nat)) {vs : List Nat} {y : Str} {py : Pos} {scope : Scope} {g : TG} {h : FG} (hc : X.calm = true) (hN : X.N.Nodup) (hy : X.N[i]? = some y) (hyl : X.env.scope.names.lookup y = some .local)
    (hsw : swapsWith (.ListComp elt [⟨tg, iter, ifs, 0⟩] scope pos) (some (.Name y py)) apos.line X.env = pure true) (hi : XI X E EX tg iter fi) (ok : BlkOk X.N X.env.scope scope own) (tgd : TgF vs g h)
    (hg : ∀ (s : Shared) (H : Hp) (C : Addr) (cl : List (Str × Addr)) (fp : List Addr), PG (X.blk s H scope (compEnvC scope cl C X.env) fp) tg g)
    (ht : ∀ (s : Shared) (H : Hp) (C : Addr) (cl : List (Str × Addr)) (fp : List Addr) (E' : En), XTs (X.blk s H scope (compEnvC scope cl C X.env) fp) E' ifs ft)
    (he : ∀ (s : Shared) (H : Hp) (C : Addr) (cl : List (Str × Addr)) (fp : List Addr) (E' : En), XE (X.blk s H scope (compEnvC scope cl C X.env) fp) E' noX elt fm) (hv : own.map (·.2) = vs := by rfl) (hs : ∀ x, foldedSetIterable iter X.env x = pure x := by intro _; rfl) :
    XS X E EX (.Assign [.Name y py] (.ListComp elt [⟨tg, iter, ifs, 0⟩] scope pos) apos) (fSetO i (fLc fi vs h ft fm)) := by
  subst hv
  exact (ds_setLc hc hN hy hyl hsw hi ok tgd.ok hg ht he hs).mono fun K ρ hp => lc_sem (sem_z.mp hp)
theorem ownOf_ok {o : Option (Option DV)} {dv : DV} (h : ownOf o = some dv) : o = some (some dv) ∧ dv.owned = true := by
  unfold ownOf at h
  split at h
  · split at h
    · cases h; exact ⟨rfl, by assumption⟩
    · cases h
  · cases h
theorem lstOf_ok {d : D} {ds : List D} (h : lstOf d = some ds) : d = .lst ds := by
  cases d <;> simp [lstOf] at h
  rw [h]
theorem sflds {Cs : List Addr} {y fld : Str} {p pos' : Pos} {value : Expr} (hK : X.K = K) (hf : ∀ C ∈ Cs, Fk K C fld) (ho : PE X (.Name y p) (tVar i)) (hv : XE X E EX value fe) (hs : swapsWith value (some (.Attribute (.Name y p) fld pos')) pos.line X.env = pure false := by rfl) :
    XS X E EX (.Assign [.Attribute (.Name y p) fld pos'] value pos) (fFldS Cs i fld fe) := (ds_fldK hK ho hv hs).mono fun Kk ρ hp => sem_mono (sem_z.mp hp) fun r ρ1 h1 => by
  obtain ⟨q, e1, h2⟩ := sem_oz.mp h1
  obtain ⟨dv, e2, h3⟩ := sem_oz.mp h2
  obtain ⟨e3, e4⟩ := ownOf_ok e2
  split at h3 <;> rename_i z
  · obtain ⟨hh, h4⟩ := sem_izno.mp h3
    exact ⟨q.1, q.2, dv, _, _, e1, e3, e4, z, hf _ hh.1, hh.2, h4⟩
  · exact h3.elim
theorem sput {kx value : Expr} {fk fv : FE} (hu : X.A.units + 1 < cLine) (q : ∀ {mk mv : ME}, DE X E kx mk → DE X E value mv → DS X E st (mPut i mk mv)) (hk : XE X E EX kx fk) (hv : XE X E EX value fv) : XS X E EX st (fPut i fk fv) := (q hk hv).mono fun K ρ hp => sem_mono (sem_z.mp hp) fun r ρ1 h1 => by
  obtain ⟨u, e1, h2⟩ := sem_oz.mp h1
  obtain ⟨dv, e2, h3⟩ := sem_oz.mp h2
  obtain ⟨e3, e4⟩ := ownOf_ok e2
  refine ⟨u.1, u.2, e1, ⟨dv, e3, e4⟩, sem_mono (sem_z.mp h3) fun rk ρ3 h4 => ?_⟩
  obtain ⟨kk, e5, h5⟩ := sem_oz.mp h4
  obtain ⟨dv2, e6, h6⟩ := sem_oz.mp h5
  obtain ⟨o, e7, h7⟩ := sem_oz.mp h6
  obtain ⟨e8, e9⟩ := ownOf_ok e6
  refine ⟨kk, dv2, o, e5, e8, e9, ?_, h7⟩
  unfold putF' at e7
  split at e7 <;> rename_i z
  · simp only [Option.map_eq_some_iff] at e7
    obtain ⟨j, hj, rfl⟩ := e7
    exact .inl ⟨_, _, j, z, rfl, hj, rfl⟩
  · simp only [Option.bind_eq_some_iff] at e7
    obtain ⟨kx, hk, h8⟩ := e7
    split at h8
    · cases h8; exact .inr ⟨_, kx, z, hk, by assumption, rfl⟩
    · cases h8
  · cases e7
theorem sapp {y : Str} {p apos cpos : Pos} (ho : PE X (.Name y p) (tVar i)) (ha : XE X E EX e fe) (hm : PE X (.Call (.Attribute (.Name y p) "append" apos) [e] [] cpos) (tBM X.K "list" rAppend (tVar i) (tCons (tL E (lif EX fe)) tNil))) (q : ∀ {me : ME}, PE X (.Name y p) (tVar i) → DE X E e me → PE X (.Call (.Attribute (.Name y p) "append" apos) [e] [] cpos) (tBM X.K "list" rAppend (tVar i) (tCons (tL E me) tNil)) → DS X E st (mApp i me)) :
    XS X E EX st (fApp i fe) := (q ho ha hm).mono fun K ρ hp => by
  obtain ⟨dv, e1, h1⟩ := sem_oz.mp hp
  obtain ⟨ds, e2, h2⟩ := sem_oz.mp h1
  obtain ⟨e3, e4⟩ := ownOf_ok e1
  refine ⟨⟨dv, ds, e3, e4, lstOf_ok e2⟩, sem_mono (sem_z.mp h2) fun r ρ1 h3 => ?_⟩
  obtain ⟨q, e5, h4⟩ := sem_oz.mp h3
  obtain ⟨dv2, e6, h5⟩ := sem_oz.mp h4
  obtain ⟨ds2, e7, h6⟩ := sem_oz.mp h5
  obtain ⟨hl, h7⟩ := sem_izno.mp h6
  obtain ⟨e8, e9⟩ := ownOf_ok e6
  exact ⟨q.1, q.2, dv2, ds2, e5, e8, e9, lstOf_ok e7, hl, h7⟩
theorem spar {i j : Nat} (h : PS X st (tPar i j (tLA E (lif EX fas)))) : XS X E EX st (fPar [i, j] fas) := (ds_par h).mono fun K ρ hp => sem_mono (sem_z.mp hp) fun rs ρ1 h1 => by
  obtain ⟨q, e1, h2⟩ := sem_oz.mp h1
  obtain ⟨ρ2, e2, h3⟩ := sem_oz.mp h2
  obtain ⟨q1, q2⟩ := q
  match q1, e2, e1 with
  | [], e2, _ => cases e2
  | [_], e2, _ => cases e2
  | [d1, d2], e2, e1 =>
    cases e2
    exact ⟨d1, d2, q2, e1, h3⟩
  | _ :: _ :: _ :: _, e2, _ => cases e2
theorem spar3 {i j l : Nat} (h : PS X st (tPar3 i j l (tLA E (lif EX fas)))) : XS X E EX st (fPar [i, j, l] fas) := (ds_par3 h).mono fun K ρ hp => sem_mono (sem_z.mp hp) fun rs ρ1 h1 => by
  obtain ⟨q, e1, h2⟩ := sem_oz.mp h1
  obtain ⟨ρ2, e2, h3⟩ := sem_oz.mp h2
  obtain ⟨q1, q2⟩ := q
  match q1, e2, e1 with
  | [], e2, _ => cases e2
  | [_], e2, _ => cases e2
  | [_, _], e2, _ => cases e2
  | [d1, d2, d3], e2, e1 =>
    cases e2
    exact ⟨d1, d2, d3, q2, e1, h3⟩
  | _ :: _ :: _ :: _ :: _, e2, _ => cases e2
/-! ### loops -/
theorem forL_sem {g : FG} {K : DEnds} : ∀ {ds : List D} {ρ : DEnv}, (forL g fs ds ρ).sem EX K → mForL (fun _ => True) (lifG g) (lifS EX fs) K ds ρ
  | [], ρ, h => ⟨trivial, h⟩
  | d :: r, ρ, h => by
    obtain ⟨ρ1, e1, h1⟩ := sem_oz.mp h
    refine ⟨trivial, ρ1, e1, ?_⟩
    show (fs ρ1).sem EX _
    cases q : fs ρ1 with
    | nx ρ2 => rw [q] at h1; exact forL_sem h1
    | ct ρ2 => rw [q] at h1; exact forL_sem h1
    | bk ρ2 => rw [q] at h1; exact h1
    | rt d ρ2 => rw [q] at h1; exact h1
    | ro d ρ2 => rw [q] at h1; exact h1
    | ex C d ρ2 => rw [q] at h1; exact h1
    | no => rw [q] at h1; exact h1
theorem sfor {g : FG} (th : Th X E EX) (hc : X.calm = true) (hi : XI X E EX tg iter fi) (hg : XG X E tg g) (hb : XSs X E EX body fs) (hs : ∀ x, foldedSetIterable iter X.env x = pure x := by intro _; rfl) : XS X E EX (.For tg iter body [] pos) (fFor fi g fs) :=
  (ds_for th.po hc hi hg hb hs).mono fun K ρ hp => sem_mono (sem_z.mp hp) fun ds ρ1 h1 => forL_sem h1
theorem swhile {n : Nat} (th : Th X E EX) (hc : XT X E EX c ft) (hb : XSs X E EX body fs) : XS X E EX (.While c body [] pos) (whL ft fs n) := (ds_while th.po hc hb).mono fun K ρ hp => by
  refine ⟨fun m ρ => (whL ft fs m ρ).sem EX K, ⟨n, hp⟩, fun m ρ h => ?_⟩
  cases m with
  | zero => exact h.elim
  | succ m =>
    refine sem_mono (sem_z.mp h) fun c ρ1 h1 => ?_
    cases c with
    | false => exact h1
    | true =>
      show (fs ρ1).sem EX _
      have h2 : (match fs ρ1 with
        | .nx ρ2 => whL ft fs m ρ2
        | .ct ρ2 => whL ft fs m ρ2
        | .bk ρ2 => .nx ρ2
        | z => z).sem EX K := h1
      cases q : fs ρ1 with
      | nx ρ2 => rw [q] at h2; exact ⟨m, Nat.lt_succ_self _, h2⟩
      | ct ρ2 => rw [q] at h2; exact ⟨m, Nat.lt_succ_self _, h2⟩
      | bk ρ2 => rw [q] at h2; exact h2
      | rt d ρ2 => rw [q] at h2; exact h2
      | ro d ρ2 => rw [q] at h2; exact h2
      | ex C d ρ2 => rw [q] at h2; exact h2
      | no => rw [q] at h2; exact h2
theorem sraise {C fI : Addr} {fd : FuncData} {k : Nat} {ps : List Str} (hc : X.calm = true) (th : Th X E EX) (T : ErrC X.K X.mg x C fI) (tI : PySem.W.typeIn X.K (.ref fI) = some (.type "function")) (G : FnOk X.prog X.w X.K X.mg X.base CX0 k fI fd ps (spErr X.K)) (hr : Room (k + 1) X.A) (hb : Binds X.K fd ps [])
    (ha : XE X E EX e fe) (hg : Gl X x := by rfl) (hs : starEach [e] X.env = (false, eval e X.env) :: starEach [] X.env := by rfl) (hdb : (x == ("__debug__" : Str)) = false := by decide) (hpl : (backTo pos (starEach [] X.env)).any (·.1) = false := by rfl) {rpos : Pos} :
    XS X E EX (.Raise (some (.Call (.Name x p) [e] [] pos)) none rpos) (fRaise C fe) := by
  obtain ⟨W, tk, lk⟩ := th.w
  exact (ds_raise hc tk lk T tI G hr hb hg ha hs hdb hpl).mono fun K ρ hp => sem_mono (sem_z.mp hp) fun r ρ1 h1 => by
    obtain ⟨q, e1, h2⟩ := sem_oz.mp h1
    exact ⟨q.1, q.2, e1, h2⟩
end
/-! ### defs -/
theorem fin_sem {as : List DV} {K : DK} {z : Z} (h : match z.fin as with
    | .rt d ns => K.rt d ns
    | .ro d ns => K.ro d ns
    | .ex C d ns => K.ex C d ns
    | .no => False) : z.sem (exOf as K) (endsOf as K) := by
  cases z with
  | nx ρ =>
    cases q : newsD as ρ with
    | none => simp [Z.fin, q] at h
    | some ns => simp only [Z.fin, q] at h; exact ⟨ns, q, h⟩
  | rt d ρ =>
    cases q : newsD as ρ with
    | none => simp [Z.fin, q] at h
    | some ns => simp only [Z.fin, q] at h; exact ⟨ns, q, h⟩
  | ro d ρ =>
    cases q : newsD as ρ with
    | none => simp [Z.fin, q] at h
    | some ns => simp only [Z.fin, q] at h; exact ⟨ns, q, h⟩
  | ex C d ρ =>
    cases q : newsD as ρ with
    | none => simp [Z.fin, q] at h
    | some ns => simp only [Z.fin, q] at h; exact ⟨ns, q, h⟩
  | bk ρ => exact h.elim
  | ct ρ => exact h.elim
  | no => exact h.elim
theorem run_len {n m : Nat} {b : FS} {as : List DV} {K : DK} (h : fnS (runF n m b) as K) : as.length = n := by
  unfold fnS runF at h
  by_cases e : as.length = n
  · exact e
  · rw [if_neg e] at h; exact h.elim
theorem runN_len {n m : Nat} {b : FS} {as : List DV} {K : DK} (h : fnN (runF n m b) as K) : as.length = n := by
  unfold fnN runF at h
  by_cases e : as.length = n
  · exact e
  · rw [if_neg e] at h; exact h.elim
section
variable {P : Program} {w : World} {K : PySem.W.Frag} {mg : Str → Option Value} {base : Heap}
theorem defF {x qual : Str} {st : Stmt} {f : Addr} {fd : FuncData} {N ps : List Str} {k n m : Nat} {b : FS} (F : Fun K x qual st f fd) (S : FnScope N ps (defScope st)) (hn : ps.length = n) (hm : N.length = n + m)
    (body : ∀ (cdv : Value) (A : Around) (outer : List Env) (s : Shared) (H : Hp) (E : XK) (En : En) (EX : DX), RoomG k (A.deeper (envOfC qual (defScope st) s.heap.objs.size f cdv)) →
      Th (cxOf (L2.CX P w) P w K mg base N qual (defScope st) f cdv A outer s H E) En EX → XSs (cxOf (L2.CX P w) P w K mg base N qual (defScope st) f cdv A outer s H E) En EX (defBody st) b) : FnG P w K mg base (L2.CX P w) (k + 1) f fd ps (liftSp (fnS (runF n m b))) :=
  fnG_of F S (lift_len fun as k h => (run_len h).trans hn.symm) fun cdv A outer s H vs Q E hr h => by
    have hl : vs.length ≤ N.length := by
      have := lift_len (sp := fnS (runF n m b)) (fun as k h => (run_len h).trans hn.symm) _ _ _ _ h
      omega
    obtain ⟨G, as, k', S0, hm', ft, hx⟩ := body_to (m := fun K EX ρ => lifS EX b K ρ) h hl (fun as k hs => by
      have el := run_len hs
      unfold fnS runF at hs
      rw [if_pos el] at hs
      have := fin_sem hs
      unfold startD
      rw [hm, el, Nat.add_sub_cancel_left]
      exact this)
    have po : PassesOwn (model P w) (cxOf (L2.CX P w) P w K mg base N qual (defScope st) f cdv A outer s H E).A (cxOf (L2.CX P w) P w K mg base N qual (defScope st) f cdv A outer s H E).env (cxOf (L2.CX P w) P w K mg base N qual (defScope st) f cdv A outer s H E).xe := passes_of (X := cxOf (L2.CX P w) P w K mg base N qual (defScope st) f cdv A outer s H E) rfl
    exact ⟨_, body cdv A outer s H E _ (exOf as k') hr ⟨⟨fun cls d _ H => E cls d H, takes_of rfl rfl rfl rfl, ⟨fun C d dx v ρ σ F H h1 h2 h3 h4 => hx C d ρ σ dx v F H h1 h2 h3 h4⟩⟩, po⟩, G, _, _, S0, hm', ft⟩
end
end DL
/-! FL5: getters; short forms. -/
namespace DL
open PySem L2 PySem.Spec PyProof.Rows
theorem finN_sem {as : List DV} {K : DK} {z : Z} (h : match z.fin as with
    | .rt d ns => K.rt d ns
    | .ro d ns => K.ro d ns
    | _ => False) : z.sem noX (endsOf as K) := by
  cases z with
  | nx ρ =>
    cases q : newsD as ρ with
    | none => simp [Z.fin, q] at h
    | some ns => simp only [Z.fin, q] at h; exact ⟨ns, q, h⟩
  | rt d ρ =>
    cases q : newsD as ρ with
    | none => simp [Z.fin, q] at h
    | some ns => simp only [Z.fin, q] at h; exact ⟨ns, q, h⟩
  | ro d ρ =>
    cases q : newsD as ρ with
    | none => simp [Z.fin, q] at h
    | some ns => simp only [Z.fin, q] at h; exact ⟨ns, q, h⟩
  | ex C d ρ =>
    cases q : newsD as ρ with
    | none => simp [Z.fin, q] at h
    | some ns => simp [Z.fin, q] at h
  | bk ρ => exact h.elim
  | ct ρ => exact h.elim
  | no => exact h.elim
section
variable {P : Program} {w : World} {K : PySem.W.Frag} {mg : Str → Option Value} {base : Heap}
theorem defN {x qual : Str} {st : Stmt} {f : Addr} {fd : FuncData} {N ps : List Str} {k n m : Nat} {b : FS} (F : Fun K x qual st f fd) (S : FnScope N ps (defScope st)) (hn : ps.length = n) (hm : N.length = n + m)
    (body : ∀ (cdv : Value) (A : Around) (outer : List Env) (s : Shared) (H : Hp) (E : XK) (En : En) (EX : DX), RoomG k (A.deeper (envOfC qual (defScope st) s.heap.objs.size f cdv)) →
      Th (cxOf CX0 P w K mg base N qual (defScope st) f cdv A outer s H E).nox En EX → XSs (cxOf CX0 P w K mg base N qual (defScope st) f cdv A outer s H E).nox En EX (defBody st) b) : FnG P w K mg base CX0 (k + 1) f fd ps (liftSp (fnN (runF n m b))) :=
  fnG_of F S (lift_len fun as k h => (runN_len h).trans hn.symm) fun cdv A outer s H vs Q E hr h => by
    have hl : vs.length ≤ N.length := by
      have := lift_len (sp := fnN (runF n m b)) (fun as k h => (runN_len h).trans hn.symm) _ _ _ _ h
      omega
    obtain ⟨G, as, k', S0, hm', ft, hx⟩ := body_to (m := fun K EX ρ => lifS noX b K ρ) h hl (fun as k hs => by
      have el := runN_len hs
      unfold fnN runF at hs
      rw [if_pos el] at hs
      have := finN_sem hs
      unfold startD
      rw [hm, el, Nat.add_sub_cancel_left]
      exact this)
    exact ⟨_, (body cdv A outer s H E _ noX hr (Th.no PassesOwn.never)).nox, G, _, _, S0, hm', ft⟩
/-- at depth 0 nothing is promised -/
theorem noF_ok {CX : CXT} {k : Nat} {f : Addr} {fd : FuncData} {ps : List Str} : FnG P w K mg base CX k f fd ps (liftSp (fnS noF)) :=
  ⟨fun vs H Q E ⟨_, _, _, _, _, _, h, _⟩ => h.elim, fun A outer s H args us vs Q E hr e0 hb r ⟨_, _, _, _, _, _, h, _⟩ => h.elim⟩
theorem FnG.mono {CX : CXT} {j k : Nat} {f : Addr} {fd : FuncData} {ps : List Str} {sp : Sp} (G : FnG P w K mg base CX j f fd ps sp) (h : j ≤ k) : FnG P w K mg base CX k f fd ps sp := ⟨G.len, fun A outer s H args us vs Q E hr => G.go A outer s H args us vs Q E (hr.mono h)⟩
end
/-! ### an error's __init__ -/
theorem err_read {K : PySem.W.Frag} {vs : List V} {H : Hp} {Q : VK} {E : XK} (h : spErr K vs H Q E) : tOst K "value" (tVar 0) (tVar 1) { nx := fun _ H' => Q .non H', rt := Q } (start ["self", "value"] vs) H := by
  obtain ⟨a, C, v, rfl, h1, h2, h3, k⟩ := h
  exact ⟨v, rfl, _, rfl, a, C, rfl, h1, h2, .inl ⟨h3, fun dx n1 n2 => k dx n1 n2⟩⟩
theorem err_len {K : PySem.W.Frag} : ∀ vs H Q E, spErr K vs H Q E → vs.length = 2 := fun vs H Q E ⟨_, _, _, e, _⟩ => by rw [e]; rfl
section
variable {X : Cx} {E : En} {EX : DX} {e a b c o : Expr} {es : List Expr} {pos apos p p2 kpos : Pos} {fa fb fc fe : FE} {fr fas fks : FA} {fo : FW}
theorem sdoc {x j pos'} : XS X E EX (.Expr (.Constant (.str x) j pos) pos') fSkip := ds_doc.mono fun K ρ hp => hp
theorem obin_cat (ha : XE X E EX a fa) (hb : XE X E EX b fb) : XO X E EX (.BinOp a .Add b pos) (fBinO catD fa fb) := (do_op op_catR oo_cat ha hb).mono fun ρ P hp => binO_sem (fun a b d h => by
  unfold catD at h
  split at h
  · split at h
    · cases h; exact ⟨_, _, rfl, rfl, by assumption, rfl⟩
    · cases h
  · cases h) hp
theorem b_max2 (hc : X.calm = true) : BuF X "max" (i2D fun i j => if i < j then j else i) := ⟨_, gI2 fun i j => if i < j then j else i, call_max2 hc, ca_I2, i2_ok⟩
theorem b_min2 (hc : X.calm = true) : BuF X "min" (i2D fun i j => if j < i then j else i) := ⟨_, gI2 fun i j => if j < i then j else i, call_min2 hc, ca_I2, i2_ok⟩
end
end DL
/-! FL6: the end. -/
namespace DL
open PySem L2 PySem.Spec PyProof.Rows
/-- no list is among the objects that the top has written -/
def noLst (K : PySem.W.Frag) : Bool := K.all fun p => match p.2.cls with
  | .type "list" => false
  | _ => true
theorem noLst_ok {K : PySem.W.Frag} (h : noLst K = true) {a : Addr} {o : Obj} (e : K.lookup a = some o) : o.cls ≠ .type "list" := by
  intro q
  have m : (a, o) ∈ K := by
    induction K with
    | nil => simp at e
    | cons p r ih =>
      obtain ⟨b, u⟩ := p
      rw [List.lookup_cons] at e
      cases hb : a == b with
      | true =>
        rw [hb] at e
        cases e
        rw [beq_iff_eq.mp hb]
        exact List.mem_cons_self
      | false =>
        rw [hb] at e
        exact List.mem_cons_of_mem _ (ih (by
          unfold noLst at h ⊢
          rw [List.all_cons, Bool.and_eq_true] at h
          exact h.2) e)
  have := List.all_eq_true.mp h (a, o) m
  rw [q] at this
  cases this
/-- a def's promise at the top, over the script as data -/
theorem callG {P : Program} {w : World} {K : PySem.W.Frag} {mg mb : Str → Option Value} {k : Nat} {fa a : Addr} {fd : FuncData} {x : Str} {F : FF} {s₁ : Shared} {us : List Value} {ns : List Int}
    (KX : K.In s₁.heap) (gx : s₁.heap.Ns mainGlobals mg) (bx : s₁.heap.Ns builtinsNs mb) (bbx : ∀ x : Str, x ≠ "__name__" → mb x = bootBuiltins x) (nlx : s₁.heap.NoLimit) (genx : s₁.gens = #[])
    (hobj : s₁.heap.get? a = some { cls := .type "list", data := .seq us.toArray }) (iv : IntsAre us ns) (sz : ns.length ≤ sizeLine) (rm : Room k callerA) (nl : noLst K = true)
    (G : ∀ base : Heap, K.In base → base.Ns mainGlobals mg → FnG P w K mg base (L2.CX P w) k fa fd [x] (liftSp (fnS F))) (bd : ∀ (s : Shared) (u : Value), BindsTo s fd ⟨[u], []⟩ [(x, u)])
    (ans : F [.fz (.lst (ns.map D.int))] = .rt (.bl true) []) :
    codeAny (model P w) callerA (.call (.ref fa) ⟨[.ref a], []⟩) (fun r s' => r = .ok (.ret (.bool true)) ∧ OldK s₁.heap s'.heap ∧ s'.os = s₁.os ∧ AllBare s'.gens) s₁ := by
  have vv := vals_ints iv
  have ka : K.lookup a = none := by
    cases q : K.lookup a with
    | none => rfl
    | some o =>
      have e := KX a o q
      rw [hobj] at e
      cases e
      exact absurd rfl (noLst_ok nl q)
  let ob : Obj := { cls := .type "list", data := .seq us.toArray }
  let H : Hp := fun b => if b = a then some (.frz ob (.lst (ns.map V.int))) else none
  have Ha : H a = some (.frz ob (.lst (ns.map V.int))) := if_pos rfl
  have Hn : ∀ {b : Addr}, b ≠ a → H b = none := fun h => if_neg h
  have only : ∀ {b : Addr} {u : HO}, H b = some u → b = a := fun {b u} e => by
    by_cases q : b = a
    · exact q
    · rw [Hn q] at e; cases e
  have okH : HOk P w H s₁.heap := fun b u z => by
    obtain rfl := only z
    rw [Ha] at z
    cases z
    exact ⟨hobj, by rw [List.length_map]; exact sz, us, _, vv, hobj⟩
  have hid : ∀ {b : Addr} {o : Obj}, s₁.heap.get? b = some o → b ≠ a → (hidT s₁.heap H).get? b = some o := fun e n => hidT_get e (Hn n)
  have hidNs : ∀ {b : Addr} {m : Str → Option Value}, s₁.heap.Ns b m → (hidT s₁.heap H).Ns b m := fun {b m} ⟨o, es, ep, e, d, r⟩ => by
    refine ⟨o, es, ep, hid e fun q => ?_, d, r⟩
    subst q
    rw [hobj] at e
    cases e
    cases (show Data.seq us.toArray _ = Data.dict es ep from d)
  have Kb : K.In (hidT s₁.heap H) := fun b o e => hid (KX b o e) fun q => by
    subst q
    rw [ka] at e; cases e
  have M : Mod K mg (hidT s₁.heap H) := ⟨Kb, hidNs gx, ⟨mb, hidNs bx, bbx⟩, let ⟨mc, h1, h2⟩ := nlx; ⟨mc, hidNs h1, h2⟩⟩
  have E0 : Env0 P w K mg (hidT s₁.heap H) callerA [] s₁ H := ⟨rfl, M, fun b o e => of_hidT e, Nat.le_of_eq (hidT_size _ _), trivial, fun b hb => absurd (show b ∈ ([] : List Addr) from hb) (by simp), okH, .of_eq genx⟩
  let Fz0 : Fz := fun b => if b = a then some (.hard (.lst (ns.map V.int))) else none
  have Fa : Fz0 a = some (.hard (.lst (ns.map V.int))) := if_pos rfl
  have sits : Sits Fz0 H := fun b fo e => by
    by_cases q : b = a
    · subst q
      rw [Fa] at e
      cases e
      exact Or.inr ⟨ob, Ha⟩
    · have e' : (none : Option FO) = some fo := (if_neg q).symm.trans e
      cases e'
  have rep : ∀ l : List Int, Reps Fz0 (l.map V.int) (l.map D.int) := fun l => by
    induction l with
    | nil => exact .nil
    | cons i r ih => exact .cons (.int i) ih
  have sp : liftSp (fnS F) [.ref a] H (fun v _ => v = .bl true) (fun _ _ _ => False) := by
    refine ⟨Fz0, [.fz (.lst (ns.map D.int))], ⟨fun d ns => d = .bl true, fun _ _ => False, fun _ _ _ => False⟩, sits, .fz (.lst Fa (rep ns)) .nil, by simp [bwA], ?_, fun d ns v F' H' h _ r => ?_, fun _ _ _ _ _ h => h.elim, fun _ _ _ _ _ _ _ h => h.elim⟩
    · unfold fnS
      rw [ans]
    · have h' : d = .bl true := h
      subst h'
      cases r
      rfl
  refine codeAny_mono ((G _ Kb (hidNs gx)).go callerA [] s₁ H ⟨[.ref a], []⟩ [.ref a] [.ref a] _ _ ⟨rm, rfl⟩ E0 (bd s₁ (.ref a)) (.cons rfl .nil) sp) fun r s' h => ?_
  match r, h with
  | .error er, h =>
    obtain ⟨_, _, _, _, _, _, _, _, _, _, _, _, z⟩ := h
    exact z.elim
  | .ok .next, h => exact h.elim
  | .ok .brk, h => exact h.elim
  | .ok .cont, h => exact h.elim
  | .ok (.ret u), h =>
    obtain ⟨v, H', os, bare, un, ok', rv, qv⟩ := h
    have qv' : v = .bl true := qv
    subst qv'
    obtain rfl : u = Value.bool true := rv
    refine ⟨rfl, OldK.of_keep fun b o e => ?_, os, bare⟩
    by_cases q : b = a
    · subst q
      have z2 := un.frzs b ob _ Ha
      obtain ⟨e2, _⟩ := ok' b _ z2
      rw [hobj] at e
      cases e
      exact e2
    · exact un.keep b o e (Hn q) (by intro z; exact absurd (show b ∈ ([] : List Addr) from z) (by simp)) (by simp)
/-- the goal that the head leaves -/
theorem walkG {l : PySem.W.OpenLaw} {n k : Nat} {q : Program} {loose : List Str} {XP : (Str → Option Value) → Heap → Prop} {YP : World → Heap → Prop} {d : DefRec} {K : Params → PySem.W.Frag} {x : Str}
    (hn : l.most = some n) (hn2 : n ≤ sizeLine) (hdf : d.params.defaults = []) (rm : Room k callerA) (hY : ∀ (w : World) (h : Heap), YP w h → (K w.params).In h)
    (G : ∀ (w : World) (mg : Str → Option Value) (fa : Addr) (h : Heap), (K w.params).In h → h.Ns mainGlobals mg → mg d.name = some (.ref fa) →
      noLst (K w.params) = true ∧ ∃ (fd : FuncData) (F : FF), (∀ (s : Shared) (u : Value), BindsTo s fd ⟨[u], []⟩ [(x, u)]) ∧
        (∀ base : Heap, (K w.params).In base → base.Ns mainGlobals mg → FnG l.prog w (K w.params) mg base (L2.CX l.prog w) k fa fd [x] (liftSp (fnS F))) ∧
        ∀ ns : List Int, ns.length ≤ n → (∀ z ∈ ns, Builtin.Int.intBits z ≤ 1048576) → F [.fz (.lst (ns.map D.int))] = .rt (.bl true) []) :
    PySem.W.WalkO q loose XP YP l.row.toRowW d [] (fun f vs => PySem.call f vs) := by
  refine Att.attach_callB hn hdf fun w s₀ s₁ mg mb fa o pm cd doc a us ns Gr Y ho hd hcd hmg hobj iv ln bits gen => ?_
  have KX := hY w _ Y
  obtain ⟨nl, fd, F, bd, hG, ans⟩ := G w mg fa _ KX Gr.T.g hmg
  exact callG KX Gr.T.g Gr.T.b Gr.T.builtins Gr.T.nolimit gen hobj iv (Nat.le_trans ln hn2) rm nl hG bd (ans ns ln bits)
/-! ### isinstance, from what the top tells -/
theorem kit_no {K : PySem.W.Frag} {C : Addr} (hc : (PySem.W.clsIn K C).isSome = true) (ty : PySem.W.typeIn K (.ref C) = some (.type "type")) : ∀ T ∈ isTys, PySem.W.kitOne K (.type T) (.ref C) = some false := by
  have go : ∀ T : String, ((PySem.fastBuiltinMro T).map (·.contains (Value.ref C))) = some false → PySem.W.kitOne K (.type T) (.ref C) = some false := fun T e => by
    have e1 : ((PySem.W.clsIn K C).isSome && PySem.W.typeIn K (.ref C) == some (.type "type")) = true := by rw [hc, ty]; rfl
    show (if (Value.type T == Value.ref C) = true then some true else PySem.W.kitCls K (.type T) (.ref C)) = some false
    rw [if_neg (by intro z; cases z)]
    show (if _ = true then PySem.W.subIn K (.type T) (.ref C) else none) = some false
    rw [if_pos e1]
    exact e
  intro T hT
  simp only [isTys, List.mem_cons, List.not_mem_nil, or_false] at hT
  rcases hT with rfl | rfl | rfl | rfl | rfl | rfl | rfl <;> exact go _ rfl
theorem cls_some {K : PySem.W.Frag} {C : Addr} (h : PySem.W.hasDictIn K C = true) : (PySem.W.clsIn K C).isSome = true := by
  obtain ⟨_, hc, _⟩ := PySem.W.any_some h
  rw [hc]; rfl
theorem isC_mk {K : PySem.W.Frag} {C : Addr} {no : List Addr} (ic : IC K C) (ty : PySem.W.typeIn K (.ref C) = some (.type "type")) (hn : ∀ C' ∈ no, IC K C' ∧ PySem.W.subIn K (.ref C') (.ref C) = some false ∧ C' ≠ C) : IsC K C no where
  ic := ic
  yes := by
    show (if (Value.ref C == Value.ref C) = true then some true else _) = some true
    rw [if_pos (by simp)]
  tys := kit_no (cls_some ic.cl.hd) ty
  no_ := fun C' h => by
    obtain ⟨h1, h2, h3⟩ := hn C' h
    refine ⟨h1, ?_⟩
    have e1 : ((PySem.W.clsIn K C).isSome && PySem.W.typeIn K (.ref C) == some (.type "type")) = true := by rw [cls_some ic.cl.hd, ty]; rfl
    show (if (Value.ref C' == Value.ref C) = true then some true else PySem.W.kitCls K (.ref C') (.ref C)) = some false
    rw [if_neg (by simp [h3])]
    show (if _ = true then PySem.W.subIn K (.ref C') (.ref C) else none) = some false
    rw [if_pos e1]
    exact h2
theorem isT_of {K : PySem.W.Frag} {T : String} {no : List Addr} (hm : PySem.W.kitMeta T = true) (ht : ∀ T' ∈ isTys, kitB T' T = some (decide (T' = T ∨ (T' = "bool" ∧ T = "int")))) (hn : ∀ C' ∈ no, IC K C' ∧ PySem.W.subIn K (.ref C') (.type T) = some false) : IsT K T no where
  tys := fun T' h => kit_ty (ht T' h)
  no_ := fun C' h => by
    obtain ⟨h1, h2⟩ := hn C' h
    refine ⟨h1, ?_⟩
    show (if (Value.ref C' == Value.type T) = true then some true else PySem.W.kitCls K (.ref C') (.type T)) = some false
    rw [if_neg (by intro z; cases z)]
    show (if _ = true then PySem.W.subIn K (.ref C') (.type T) else none) = some false
    rw [if_pos hm]
    exact h2
theorem isT_int {K : PySem.W.Frag} {no : List Addr} (hn : ∀ C' ∈ no, IC K C' ∧ PySem.W.subIn K (.ref C') (.type "int") = some false) : IsT K "int" no := isT_of (by decide +kernel) (by decide +kernel) hn
theorem isT_tuple {K : PySem.W.Frag} {no : List Addr} (hn : ∀ C' ∈ no, IC K C' ∧ PySem.W.subIn K (.ref C') (.type "tuple") = some false) : IsT K "tuple" no := isT_of (by decide +kernel) (by decide +kernel) hn
theorem isT_list {K : PySem.W.Frag} {no : List Addr} (hn : ∀ C' ∈ no, IC K C' ∧ PySem.W.subIn K (.ref C') (.type "list") = some false) : IsT K "list" no := isT_of (by decide +kernel) (by decide +kernel) hn
theorem isT_str {K : PySem.W.Frag} {no : List Addr} (hn : ∀ C' ∈ no, IC K C' ∧ PySem.W.subIn K (.ref C') (.type "str") = some false) : IsT K "str" no := isT_of (by decide +kernel) (by decide +kernel) hn
theorem isT_dict {K : PySem.W.Frag} {no : List Addr} (hn : ∀ C' ∈ no, IC K C' ∧ PySem.W.subIn K (.ref C') (.type "dict") = some false) : IsT K "dict" no := isT_of (by decide +kernel) (by decide +kernel) hn
end DL
/-! FL7: try, except .. as e: one name is stored in each suite. -/
namespace L2
open PySem PySem.Spec PyProof.Rows
/-- what the clauses 'except x as n' wish of an exception, one after the other -/
def wAsM (K : PySem.W.Frag) (Wout : WX) (D : Ends) (i : Nat) : List (Value × (Addr → Value → Option Addr → TS)) → WX
  | [] => Wout
  | (c, ts) :: r => fun cls d σ H => ∃ b, PySem.W.exmOne K cls c = some b ∧
      (b = true → ∀ a, H a = none → ts a cls d { nx := fun σ' H' => D.nx (σ'.set i none) H', rt := D.rt, bk := fun σ' H' => D.bk (σ'.set i none) H', ct := fun σ' H' => D.ct (σ'.set i none) H' } (σ.set i (some (.ref a))) H) ∧
      (b = false → wAsM K Wout D i r cls d σ H)
inductive ClsOk (X : Cx) (n : Str) : List ExceptHandler → List (Value × (Addr → Value → Option Addr → TS)) → Prop
  | nil : ClsOk X n [] []
  | cons {x : Str} {c : Value} {ts : Addr → Value → Option Addr → TS} {st : Stmt} {suite : List Stmt} {np hp : Pos} {hds : List ExceptHandler} {l : List (Value × (Addr → Value → Option Addr → TS))} (hc : Names X x c)
      (su : ∀ (a : Addr) (oe : Obj) (cls : Value) (d : Option Addr) (pn : List (Addr × Obj)), Zc cls d oe → (∃ vs, oe.data = .fields vs) → PSs (X.suite a ((a, oe) :: pn)) (st :: suite) (ts a cls d)) (r : ClsOk X n hds l) :
      ClsOk X n (.ExceptHandler (some (.Name x np)) (some n) (st :: suite) hp :: hds) ((c, ts) :: l)
section
variable {X : Cx} {n : Str} {i : Nat} {body : List Stmt} {hd0 : ExceptHandler} {hds : List ExceptHandler} {l : List (Value × (Addr → Value → Option Addr → TS))} {pos : Pos} {tb : WX → TS} {Wout : WX}
theorem ps_tryM (st : X.stack = X.env :: X.outer) (fr : X.env.frame = some X.env.locals) (nd : X.N.Nodup) (ni : X.N[i]? = some n) (nl : X.env.kindOf n = some .local) (tk : Takes X Wout)
    (tbody : ∀ (W : WX) (pn : List (Addr × Obj)) (xe : Value → Shared → Prop), Takes (X.tr pn xe) W → PassesOwn (model X.prog X.w) X.A X.env xe → PSs (X.tr pn xe) body (tb W))
    (cl : ClsOk X n (hd0 :: hds) l) : PS X (.Try body (hd0 :: hds) [] [] pos) (fun D σ H => tb (wAsM X.K Wout D i l) D σ H) := by
  refine ⟨fun pins s σ H D I h => ?_⟩
  have okX := I.ok
  have frs0 : X.A.frames = some (X.env :: X.outer) := by rw [okX.frames, st]
  refine wpAny_Try_except ?_
  have run := tbody (wAsM X.K Wout D i l) (X.pn ++ pins) (fun e s₁ => wpAny (model X.prog X.w) X.A (noteFrame e X.env) (fun _ s₂ => wpAny (model X.prog X.w) X.A (setFlight e none) (fun _ s₃ =>
    wpAny (model X.prog X.w) X.A (handleBy e X.env (hd0 :: hds)) (SP X pins D) X.xe s₃) X.xe s₂) X.xe s₁) (fun u s' air => ?_) PassesOwn.looking
  · refine wpAny_mono (run.run [] s σ H D (I.toTry _) h) (fun f s1 z => ?_) (fun e s1 z => z)
    match f, z with
    | .next, ⟨σ', H', J, q⟩ => exact wpAny_execs_nil ⟨σ', H', J.ofTry okX, q⟩
    | .brk, ⟨σ', H', J, q⟩ => exact ⟨σ', H', J.ofTry okX, q⟩
    | .cont, ⟨σ', H', J, q⟩ => exact ⟨σ', H', J.ofTry okX, q⟩
    | .ret u, ⟨v, σ', H', J, r, q⟩ => exact ⟨v, σ', H', J.ofTry okX, r, q⟩
  · obtain ⟨a, B, sI, pins', σ', H', cls, d, rfl, Jt, nb, up, sky0, na, os, ag, w⟩ := air
    have J : Inv X pins σ' H' sI := Jt.ofTry okX
    have sky1 : Sky B (X.env :: X.outer) a (Zc cls d) X.env.locals s'.heap := by rw [← st]; exact sky0
    show wpAny (model X.prog X.w) X.A (noteFrame (.ref a) X.env) _ _ _
    refine Sky.land Zc.steady frs0 fr sky1 fun hL fly upL => ?_
    have JL : Inv X pins σ' H' { s' with heap := hL } := J.landed nb fly.1 (up.trans upL) os ag
    obtain ⟨oL, vsL, heL, hzL, hdL⟩ := fly.there
    have off : a ∉ frs (X.env :: X.outer) := fun hm => by
      obtain ⟨_, o', e', hnf⟩ := fly.2.2.1.mem hm
      rw [heL] at e'; cases e'
      exact hnf _ hdL
    have aL : a ≠ X.env.locals := fun z => off (List.mem_filterMap.mpr ⟨X.env, List.mem_cons_self, by rw [fr, z]⟩)
    have aF : a ∉ X.fs := fun hm => by
      obtain ⟨e, he, q⟩ := List.mem_filterMap.mp hm
      exact off (List.mem_filterMap.mpr ⟨e, List.mem_cons_of_mem _ he, q⟩)
    have SL := JL.suite heL hdL na aL aF
    have walk : ∀ {hs' : List ExceptHandler} {l' : List (Value × (Addr → Value → Option Addr → TS))}, ClsOk X n hs' l' → wAsM X.K Wout D i l' cls d σ' H' →
        wpAny (model X.prog X.w) X.A (handleBy (.ref a) X.env hs') (SP X pins D) X.xe { s' with heap := hL } := by
      intro hs' l' hk
      induction hk with
      | nil =>
        intro w
        refine wpAny_handleBy_nil ?_
        obtain ⟨_, _, _, _, _, T, _, _, he, _, hd, h1, _⟩ := id fly
        unfold PySem.passOn
        refine wpAny_bind (wpAny_field he hd h1 ?_)
        rw [if_neg (show ¬ ((Value.ref T == Value.none) = true) from by simp)]
        have up2 : wpAny (model X.prog X.w) X.A (setFlight (.ref a) X.env.frame) (fun _ s4 => wpAny (model X.prog X.w) X.A (throw (.ref a) : Sem Flow) (SP X pins D) X.xe s4) X.xe { s' with heap := hL } := by
          rw [fr]
          refine HandSPX.setFlight_upZ fly fun hU held upU => wpAny_throw (tk _ _ ?_)
          exact ⟨a, B, sI, pins, σ', H', cls, d, rfl, J, nb, (up.trans upL).trans upU, .inr (.inr (by rw [st]; exact held)), na, os, ag, w⟩
        first
          | exact wpAny_bind (wpAny_pure (wpAny_bind up2))
          | exact wpAny_bind up2
      | @cons x c ts st0 suite np hp hds2 l2 hc su r ih =>
        intro w
        obtain ⟨b, hb, yes, no⟩ := w
        refine wpAny_handleBy_cons (codeAny_handlers_test ?_) (by intro q; cases q)
        have LT : PySem.W.Looks (model X.prog X.w) hL (typeOf (.ref a)) cls := fun A Q E s k q => wpAny_typeOf_ref (k _ _ heL) (by rw [hzL.1]; exact q)
        have LM := PySem.W.exm_one (M := model X.prog X.w) (JL.kIn) LT hb
        have nameIs : ∀ {Q : Value → Shared → Prop} {E : Value → Shared → Prop}, Q c { s' with heap := hL } → wpAny (model X.prog X.w) (X.A.mark (some (.ref a))) (eval (.Name x np) X.env) Q E { s' with heap := hL } := fun {Q E} q => by
          rcases hc with ⟨hg, hdbg, hm | ⟨hm, hv, hnn⟩⟩
          · exact ld_glob (X := X.suite a ((a, oL) :: (X.pn ++ pins))) SL hg hm q hdbg
          · exact ld_blt (X := X.suite a ((a, oL) :: (X.pn ++ pins))) SL hg hm hv q hnn hdbg
        refine nameIs (LM.here ?_)
        cases b with
        | false =>
          show wpAny _ X.A (handleBy (.ref a) X.env hds2) _ _ _
          exact ih (no rfl)
        | true =>
          refine codeAny_handlers_suite_as ?_
          refine HandSPX.lands_againZ fly fun hM fly2 upM => ?_
          have JM : Inv X pins σ' H' { s' with heap := hM } := J.landed nb fly2.1 ((up.trans upL).trans upM) os ag
          obtain ⟨oM, vsM, heM, hzM, hdM⟩ := fly2.there
          have SM := JM.suite heM hdM na aL aF
          refine store_ok (X := X.suite a ((a, oM) :: (X.pn ++ pins))) (v := .ref a) SM nd ni (.inl nl) rfl (fun s5 S5 => ?_) (.inr nl)
          refine wpAny_mono ((su a oM cls d (X.pn ++ pins) hzM ⟨_, hdM⟩).run [] s5 _ H' _ S5 (yes rfl a na)) (fun f s6 z => ?_) (fun _ _ z => False.elim z)
          have bye : ∀ {σ6 : St} {H6 : Hp} {Q : Shared → Prop}, Inv (X.suite a ((a, oM) :: (X.pn ++ pins))) [] σ6 H6 s6 → (∀ s7, Inv X pins (σ6.set i none) H6 s7 → Q s7) →
              wpAny (model X.prog X.w) X.A (do bindName X.env n .none; unbindBehindTheSuite X.env n hp) (fun _ s7 => Q s7) X.xe s6 := fun {σ6 H6 Q} S6 hq => gone_ok (S6.unsuite okX) nd ni nl hq
          match f, z with
          | .next, ⟨σ6, H6, S6, q6⟩ => exact bye S6 fun s7 J7 => ⟨_, _, J7, q6⟩
          | .brk, ⟨σ6, H6, S6, q6⟩ => exact bye S6 fun s7 J7 => ⟨_, _, J7, q6⟩
          | .cont, ⟨σ6, H6, S6, q6⟩ => exact bye S6 fun s7 J7 => ⟨_, _, J7, q6⟩
          | .ret u, ⟨v6, σ6, H6, S6, r6, q6⟩ => exact bye S6 fun s7 J7 => ⟨_, _, _, J7, r6, q6⟩
    exact walk cl w
end
end L2
/-! ### try in data -/
namespace DL
open PySem L2 PySem.Spec PyProof.Rows
/-- an expression of a suite: what it comes to, by the exception's value -/
def CE (X : Cx) (E : En) (i : Nat) (a dx : Addr) (e : Expr) (h : D → D) : Prop := PE X e fun σ H Q => ∃ F ρ v d, SR E F H σ ρ ∧ σ[i]? = some (some (.ref a)) ∧ F dx = some (.hard (.xd [("value", v)])) ∧ Rep F v d ∧
  ∀ w F' H', SR E F' H' σ ρ → Le F F' → Rep F' w (h d) → Q w H'
def CEs (X : Cx) (E : En) (i : Nat) (a dx : Addr) (es : List Expr) (h : D → List D) : Prop := PA X es fun σ H Q => ∃ F ρ v d, SR E F H σ ρ ∧ σ[i]? = some (some (.ref a)) ∧ F dx = some (.hard (.xd [("value", v)])) ∧ Rep F v d ∧
  ∀ ws F' H', SR E F' H' σ ρ → Le F F' → Reps F' ws (h d) → Q ws H'
section
variable {X : Cx} {E : En} {i : Nat} {a dx C : Addr} {e c : Expr} {es : List Expr} {pos p : Pos} {h : D → D} {hs : D → List D} {n : Str} {oe : Obj} {pn : List (Addr × Obj)}
theorem ce_c {v : V} {d : D} (k : PE X e (tC v)) (r : ∀ F, Rep F v d) : CE X E i a dx e (fun _ => d) := PE.to k fun σ H Q ⟨F, ρ, v, d, S, _, _, _, q⟩ => q _ F H S .refl (r F)
theorem ce_str {x : Str} {j} : CE X E i a dx (.Constant (.str x) j pos) (fun _ => .str x) := ce_c pe_str fun _ => .str x
theorem ce_non {j} : CE X E i a dx (.Constant .none j pos) (fun _ => .non) := ce_c pe_non fun _ => .non
theorem ce_bl {b : Bool} {j} : CE X E i a dx (.Constant (.bool b) j pos) (fun _ => .bl b) := ce_c pe_bl fun _ => .bl b
/-- e.value -/
theorem ce_val (T : XfC X.K C) (hno : PySem.W.findIn X.K (.ref C) "value" = some none) (hz : Zc (.ref C) (some dx) oe) (hf : ∃ vs, oe.data = .fields vs) (he : PE (X.suite a ((a, oe) :: pn)) (.Name n p) (tVar i)) (hb : attributeBase (.Name n p) "value" X.env (eval (.Name n p) X.env) = eval (.Name n p) X.env := by rfl) :
    CE (X.suite a ((a, oe) :: pn)) E i a dx (.Attribute (.Name n p) "value" pos) id := PE.to (pe_xf T hno hz hf he hb) fun σ H Q ⟨F, ρ, v, d, S, hs, hF, r, q⟩ =>
  ⟨.ref a, hs, rfl, rfl, dx, _, v, rfl, S.hard hF, by simp [List.lookup], q v F H S .refl r⟩
/-- isinstance(e, X) -/
def rIsE2 (K : PySem.W.Frag) (D a dx : Addr) : List V → Hp → VK → Prop := fun xs H Q => ∃ (c : V) (cv : Value) (b : Bool) (fs : List (Str × V)), xs = [.ref a, c] ∧ H dx = some (.xd fs) ∧ (∀ u, RelV c u → u = cv) ∧ PySem.W.kitOne K (.ref D) cv = some b ∧ Q (.bl b) H
theorem call_isE2 {D : Addr} (T : ExcC X.K D) (hz : Zc (.ref D) (some dx) oe) (hf : ∃ vs, oe.data = .fields vs) : CallR (X.suite a ((a, oe) :: pn)) (.builtin "isinstance") (rIsE2 X.K D a dx) := by
  intro pins s σ H xs us Q I r z
  obtain ⟨c, cv, b, fs, rfl, hx, hcv, e, q⟩ := z
  match us, r with
  | [u1, u2], .cons rx (.cons rt .nil) =>
    cases rx
    have ec := hcv _ rt
    subst ec
    obtain ⟨here, _⟩ := I.pin (a, oe) (List.mem_append.mpr (.inl List.mem_cons_self))
    obtain ⟨vs, hv⟩ := hf
    obtain ⟨mA, hns, _⟩ := (show ObjOk X.prog X.w H s.heap dx (.xd fs) from I.hok dx _ hx)
    obtain ⟨od, ho, _⟩ := lookIn_ns hns
    have J : PySem.W.InstAt s.heap a oe D (some od) := ⟨here, hz.1, by unfold PySem.W.notCls; rw [hv] <;> rfl, by rw [hz.2]; exact ho⟩
    exact PySem.W.kia_one (PySem.W.kitx_exc (by obtain ⟨cd, hc, _⟩ := PySem.W.any_some T.hd; rw [hc]; rfl) T.hg T.hk T.hs T.ha T.hn T.ht T.hm) I.kIn J e (fun z => nomatch z) fun tk => ⟨.bl b, H, I.kept (t' := tk) fun _ _ z => z, rfl, q⟩
theorem ce_isi {D : Addr} {b : Bool} {cv : V} {cu : Value} (T : ExcC X.K D) (hz : Zc (.ref D) (some dx) oe) (hf : ∃ vs, oe.data = .fields vs) (he : PE (X.suite a ((a, oe) :: pn)) (.Name n p) (tVar i)) (hc : PE (X.suite a ((a, oe) :: pn)) c (tC cv)) (hcv : ∀ u, RelV cv u → u = cu) (hk : PySem.W.kitOne X.K (.ref D) cu = some b)
    (hg : Gl (X.suite a ((a, oe) :: pn)) "isinstance") (hm : X.mg "isinstance" = none) {p1 : Pos} (s1 : starEach [.Name n p, c] X.env = (false, eval (.Name n p) X.env) :: starEach [c] X.env := by rfl) (s2 : starEach [c] X.env = (false, eval c X.env) :: starEach [] X.env := by rfl)
    (hpl : (backTo pos (starEach [c] X.env)).any (·.1) = false := by rfl) : CE (X.suite a ((a, oe) :: pn)) E i a dx (.Call (.Name "isinstance" p1) [.Name n p, c] [] pos) (fun _ => .bl b) :=
  PE.to (pe_callB (call_isE2 T hz hf) hg hm rfl (pa_cons he (pa_cons hc pa_nil s2) s1) (by decide) (by decide) s1 hpl) fun σ H Q ⟨F, ρ, v, d, S, hs, hF, r, q⟩ =>
    ⟨.ref a, hs, cv, cu, b, _, rfl, S.hard hF, hcv, hk, q _ F H S .refl (.bl b)⟩
theorem ces_nil : CEs X E i a dx [] (fun _ => []) := PA.to pa_nil fun σ H Q ⟨F, ρ, v, d, S, _, _, _, q⟩ => q _ F H S .refl .nil
theorem ces_cons (k : CE X E i a dx e h) (ks : CEs X E i a dx es hs) (hst : starEach (e :: es) X.env = (false, eval e X.env) :: starEach es X.env := by rfl) : CEs X E i a dx (e :: es) (fun d => h d :: hs d) := PA.to (pa_cons k ks hst) fun σ H Q ⟨F, ρ, v, d, S, hi, hF, r, q⟩ =>
  ⟨F, ρ, v, d, S, hi, hF, r, fun w F1 H1 S1 l1 r1 => ⟨F1, ρ, v, d, S1, hi, l1 _ _ hF, r.mono l1, fun ws F2 H2 S2 l2 r2 => q _ F2 H2 S2 (l1.trans l2) (.cons (r1.mono l2) r2)⟩⟩
theorem ce_lst (ks : CEs X E i a dx es hs) (hl : ∀ d, (hs d).length ≤ 1000) : CE X E i a dx (.List es pos) (fun d => .lst (hs d)) := PE.to (pe_lst ks) fun σ H Q ⟨F, ρ, v, d, S, hi, hF, r, q⟩ =>
  ⟨F, ρ, v, d, S, hi, hF, r, fun ws F1 H1 S1 l1 r1 => ⟨by rw [r1.length]; exact le_sizeLine (hl d), fun p hp => by
    obtain ⟨S2, N⟩ := S1.newLst hp r1
    obtain ⟨F3, l3, S3, r3⟩ := S2.freeze N
    exact q _ F3 _ S3 (l1.trans l3) r3⟩⟩
end
inductive HOk (X : Cx) (n : Str) (i j : Nat) : List ExceptHandler → List ((Addr → Option Bool) × (Addr → D → D)) → Prop
  | nil : HOk X n i j [] []
  | cons {x y : Str} {c : Value} {t : Addr → Option Bool} {h : Addr → D → D} {e : Expr} {np hp yp sp : Pos} {hds : List ExceptHandler} {cls : List ((Addr → Option Bool) × (Addr → D → D))} (hc : Names X x c) (ht : ∀ C b, t C = some b → PySem.W.exmOne X.K (.ref C) c = some b)
      (su : ∀ (a : Addr) (oe : Obj) (C dx : Addr) (pn : List (Addr × Obj)), t C = some true → Zc (.ref C) (some dx) oe → (∃ vs, oe.data = .fields vs) → ∀ E', CE (X.suite a ((a, oe) :: pn)) E' i a dx e (h C))
      (st : ∀ (a : Addr) (oe : Obj) (pn : List (Addr × Obj)) {te : TE}, PE (X.suite a ((a, oe) :: pn)) e te → PS (X.suite a ((a, oe) :: pn)) (.Assign [.Name y yp] e sp) (tAsg te (gName j))) (r : HOk X n i j hds cls) :
      HOk X n i j (.ExceptHandler (some (.Name x np)) (some n) [.Assign [.Name y yp] e sp] hp :: hds) ((t, h) :: cls)
/-- the reading of a suite -/
def tsOf (t : Addr → Option Bool) (h : Addr → D → D) (i j : Nat) : Addr → Value → Option Addr → TS := fun a cls d D σ H => ∃ (E' : En) (C dx : Addr) (F : Fz) (ρ : DEnv) (v : V) (dd : DL.D), cls = .ref C ∧ d = some dx ∧ t C = some true ∧ SR E' F H σ ρ ∧ σ[i]? = some (some (.ref a)) ∧ F dx = some (.hard (.xd [("value", v)])) ∧ Rep F v dd ∧
  ∀ w F' H', SR E' F' H' σ ρ → Le F F' → Rep F' w (h C dd) → D.nx (σ.set j (some w)) H'
section
variable {X : Cx} {E : En} {EX : DX} {n : Str} {i j : Nat} {body : List Stmt} {h0 : ExceptHandler} {hds : List ExceptHandler} {cls : List ((Addr → Option Bool) × (Addr → D → D))} {pos : Pos} {fb : FS} {W : WX}
theorem HOk.to {hds : List ExceptHandler} {cls : List ((Addr → Option Bool) × (Addr → D → D))} (k : HOk X n i j hds cls) (ij : i ≠ j) : ∃ l, ClsOk X n hds l ∧ ∀ {E : En} {EX : DX} {F0 : Fz} {H0 : Hp} {σ0 : L2.St} {ρ0 : DEnv} {P : DEnds} {Q : Ends} {C dx : Addr} {d : D} {v : V} {ρ : DEnv} {σ : L2.St} {F : Fz} {H : Hp}, Lk E EX W → SR E F0 H0 σ0 ρ0 → Fits E F0 P Q → SR (anew F0 H0 σ0 ρ0) F H σ ρ → F dx = some (.hard (.xd [("value", v)])) → Rep F v d → i < ρ.length →
    (tryL i j cls C d ρ).sem EX P → wAsM X.K W Q i l (.ref C) (some dx) σ H := by
  induction k with
  | nil => exact ⟨[], .nil, fun {E EX F0 H0 σ0 ρ0 P Q C dx d v ρ σ F H} lk S0 ft S hF r hl h => lk.out C d dx v ρ σ F H h (S0.back S) hF r⟩
  | @cons x y c t h e np hp yp sp hds cls hc ht su st r ih =>
    obtain ⟨l, h1, h2⟩ := ih
    refine ⟨(c, tsOf t h i j) :: l, .cons hc (fun a oe cls d pn hz hf => ⟨fun pins s σ H D I z => ?_⟩) h1, fun {E EX F0 H0 σ0 ρ0 P Q C dx d v ρ σ F H} lk S0 ft S hF rr hl hh => ?_⟩
    · obtain ⟨E', C, dx, F, ρ, v, dd, rfl, rfl, hC, S, hi, hF, rr, k⟩ := z
      exact (pss_one (st a oe pn (su a oe C dx pn hC hz hf E'))).run pins s σ H D I ⟨F, ρ, v, dd, S, hi, hF, rr, fun w F' H' S' l' r' => k w F' H' S' l' r'⟩
    · unfold tryL at hh
      cases q : t C with
      | none => rw [q] at hh; exact hh.elim
      | some b =>
        refine ⟨b, ht C b q, fun hb a na => ?_, fun hb => ?_⟩
        · subst hb
          rw [q] at hh
          have hh' : P.nx ((ρ.set i none).set j (some (.fz (h C d)))) := hh
          have S1 := S.drop i
          have no : ∀ dv, (ρ.set i none)[i]? ≠ some (some dv) := fun dv z => by
            rw [List.getElem?_set_self hl] at z; cases z
          have S2 := S1.forget no (some (.ref a))
          have hl' : i < σ.length := by rw [S.len]; exact hl
          refine ⟨_, C, dx, F, _, v, d, rfl, rfl, q, S2, List.getElem?_set_self hl', hF, rr, fun w F' H' S' l' r' => ?_⟩
          have S3 := (S'.fzSet j r')
          have no3 : ∀ dv, ((ρ.set i none).set j (some (.fz (h C d))))[i]? ≠ some (some dv) := fun dv z => by
            rw [List.getElem?_set_ne (Ne.symm ij)] at z
            exact no dv z
          have S4 := S3.forget no3 none
          exact ft.nx _ _ H' F' hh' (S0.back S4) (S.go.le.trans l')
        · subst hb
          rw [q] at hh
          exact h2 lk S0 ft S hF rr hl hh
open PySem.Spec PyProof.Rows in
theorem xtry (T : Th X E EX) (st : X.stack = X.env :: X.outer) (fr : X.env.frame = some X.env.locals) (nd : X.N.Nodup) (ni : X.N[i]? = some n) (nl : X.env.kindOf n = some .local) (ij : i ≠ j)
    (hb : ∀ (pn : List (Addr × Obj)) (xe : Value → Shared → Prop) (E' : En) (EX' : DX), Th (X.tr pn xe) E' EX' → XSs (X.tr pn xe) E' EX' body fb)
    (k : HOk X n i j (h0 :: hds) cls) : XS X E EX (.Try body (h0 :: hds) [] [] pos) (fTry fb i j cls) := by
  obtain ⟨W, tk, lk⟩ := T.w
  obtain ⟨l, h1, h2⟩ := k.to (W := W) ij
  refine PS.to (ps_tryM (Wout := W) (tb := fun W' D σ H => ∃ E' EX', Lk E' EX' W' ∧ tLS E' (lifS EX' fb) D σ H) st fr nd ni nl tk (fun W' pn xe tk' po => ⟨fun pins s σ H D I ⟨E', EX', lk', z⟩ => (hb pn xe E' EX' ⟨⟨W', tk', lk'⟩, po⟩).run pins s σ H D I z⟩) h1) fun Q σ H ⟨F, ρ, P, S, hm, ft⟩ => ?_
  refine ⟨anew F H σ ρ, fun C d ρ' => i < ρ'.length ∧ (tryL i j cls C d ρ').sem EX P, ⟨fun C dx d v ρ' σ' F' H' hx S' hF r => h2 lk S ft S' hF r hx.1 hx.2⟩, F, ρ, P, S.again, ?_, ?_⟩
  · have hm' : (fTry fb i j cls ρ).sem EX P := hm
    unfold fTry at hm'
    show (fb ρ).sem _ P
    cases q : fb ρ <;> rw [q] at hm' <;> first | exact hm' | skip
    exact sem_izno.mp hm'
  · exact ⟨fun ρ' σ' H' F' a b c => ft.nx ρ' σ' H' F' a (S.back b) c, fun d ρ' σ' v H' F' a b c e => ft.rt d ρ' σ' v H' F' a (S.back b) c e, fun d ρ' σ' p H' F' a b c e => ft.ro d ρ' σ' p H' F' a (S.back b) c ⟨e.1, e.2.1, e.2.2.imp S.go.free id⟩, fun ρ' σ' H' F' a b c => ft.bk ρ' σ' H' F' a (S.back b) c, fun ρ' σ' H' F' a b c => ft.ct ρ' σ' H' F' a (S.back b) c⟩
end
end DL
/-! FL8: == and != of data with instances in it. -/
namespace GB
open PySem PySem.SeqAt
open AutoSeq1 (wpAny_loadPart')
open MeetsSeq MeetsSeq2 MeetsSeq3 SeqRoads2
open GQ (FinOf)
section
variable {prog : Program} {w : World} {A : Around} {R : Result → Shared → Prop}
/-- at each turn the two lists are read anew; a turn may end the walk -/
def ListB (prog : Program) (w : World) (A : Around) (R : Result → Shared → Prop) (E : Value → Shared → Prop) (neg : Bool) (l b : Addr) (N : Nat) (I : Nat → Shared → Prop) : Prop :=
  ∀ i s, I i s → ∃ (items items2 : Array Value) (n n2 : Nat) (sl sl2 : Array (Option Value)), s.heap.get? l = some { cls := .type "list", data := .seq items n, slots := sl } ∧ s.heap.get? b = some { cls := .type "list", data := .seq items2 n2, slots := sl2 } ∧ items.size = N ∧ items2.size = N ∧
    ∀ (h1 : i < items.size) (h2 : i < items2.size), wpAny (model prog w) A.in1 (eqBool items[i] items2[i]) (fun r s' => (r = true ∧ I (i + 1) s') ∨ (r = false ∧ I i s' ∧ R (.ok (.ret (.bool neg))) s')) E s
theorem eq_loopB (l b : Addr) (N : Nat) (I : Nat → Shared → Prop) (hl : ListB prog w A R (fun e s' => R (.error e) s') false l b N I)
    (fin : ∀ s, I N s → R (.ok (.ret (.bool (!false)))) s) (k : Nat) :
    ∀ i : Nat, N - i = k → i ≤ N → ∀ s, I i s →
      wpAny (model prog w) A.in1 (Builtin.«list.__eq__.loop» ⟨[.ref l, .ref b, rawInt i, rawInt 2], []⟩) (FinOf prog w A R) (fun e s' => R (.error e) s') s := by
  induction k with
  | zero =>
    intro i hk hi s h
    obtain ⟨items, items2, n, n2, sl, sl2, hl1, hb1, hs1, hs2, _⟩ := hl _ _ h
    have hi' : i = N := by omega
    have hR : R (.ok (.ret (.bool (!false)))) s := fin s (hi' ▸ h)
    obtain ⟨hp, g, d, tk, os⟩ := s
    wp_walk using wpAny_loadPart' hl1, wpAny_loadPart' hb1
    have hi1 : items[((i : Nat) : Int).toNat]? = none := by simp; omega
    have hi2 : items2[((i : Nat) : Int).toNat]? = none := by simp; omega
    rw [hi1, hi2]
    wp_walk using wpAny_loadPart' hl1, wpAny_loadPart' hb1
    show R (.ok (.ret (.bool (items.size == items2.size)))) _
    rw [hs1, hs2]
    simpa using hR
  | succ k ih =>
    intro i hk hi s h
    obtain ⟨items, items2, n, n2, sl, sl2, hl1, hb1, hs1, hs2, turn⟩ := hl _ _ h
    have hlt : i < items.size := by omega
    have hlt2 : i < items2.size := by omega
    have ht := turn hlt hlt2
    obtain ⟨hp, g, d, tk, os⟩ := s
    wp_walk using wpAny_loadPart' hl1, wpAny_loadPart' hb1
    have hi1 : items[((i : Nat) : Int).toNat]? = some items[i] := by simp [hlt]
    have hi2 : items2[((i : Nat) : Int).toNat]? = some items2[i] := by simp [hlt2]
    have hc : ((i : Int) + 1) = ((i + 1 : Nat) : Int) := by omega
    rw [hi1, hi2]
    refine wpAny_bind (wpAny_mono ht (fun r s2 h2 => ?_) fun _ _ x => x)
    rcases h2 with ⟨hr, h2⟩ | ⟨hr, h2, h3⟩
    · subst hr
      have hrec := ih (i + 1) (by omega) (by omega) s2 h2
      obtain ⟨hp2, g2, d2, tk2, os2⟩ := s2
      wp_walk
      rw [hc]
      exact ⟨plainId_quiet plain_eq_loop _, codeAny_builtin entry_eq_loop (by
        rw [Around.under_plainId plain_eq_loop _]
        exact hrec)⟩
    · subst hr
      obtain ⟨itemsB, items2B, nB, n2B, slB, sl2B, hl2, hb2, hs3, hs4, _⟩ := hl _ _ h2
      have hi3 : itemsB[((i : Nat) : Int).toNat]? = some (itemsB[i]'(by omega)) := by simp
      have hi4 : items2B[((i : Nat) : Int).toNat]? = some (items2B[i]'(by omega)) := by simp
      obtain ⟨hp2, g2, d2, tk2, os2⟩ := s2
      wp_walk using wpAny_loadPart' hl2, wpAny_loadPart' hb2
      rw [hi3, hi4]
      wp_walk
      exact h3
theorem list_eqB (l b : Addr) (N : Nat) (I : Nat → Shared → Prop) (hl : ListB prog w A R (fun e s' => R (.error e) s') false l b N I)
    (fin : ∀ s, I N s → R (.ok (.ret (.bool (!false)))) s) {s : Shared} (h : I 0 s) :
    wpAny (model prog w) A.in1 (Builtin.«list.__eq__» ⟨[.ref l, .ref b], []⟩) (FinOf prog w A R) (fun e s' => R (.error e) s') s := by
  obtain ⟨items, items2, n, n2, sl, sl2, hl1, hb1, hs1, hs2, _⟩ := hl _ _ h
  have hrec := eq_loopB (A := A) (R := R) l b N I hl fin _ 0 rfl (Nat.zero_le _) s h
  obtain ⟨hp, g, d, tk, os⟩ := s
  have f3 := AutoSeq1.sub_list_list
  have hne : ¬ (items.size != items2.size) = true := by simp [hs1, hs2]
  wp_walk using wpAny_loadPart' hl1, wpAny_loadPart' hb1
  exact ⟨plainId_quiet plain_eq_loop _, codeAny_builtin entry_eq_loop (by
    rw [Around.under_plainId plain_eq_loop _]
    exact hrec)⟩
theorem tuple_eqB (l b : Addr) (items items2 : Array Value) (n n2 : Nat) (dd dd2 : Option Addr) (sl sl2 : Array (Option Value)) (hsz : items.size = items2.size) (I : Nat → Shared → Prop)
    (turn : ∀ i (h1 : i < items.size) (h2 : i < items2.size) s, I i s → wpAny (model prog w) A.in1 (eqBool items[i] items2[i]) (fun r s' => (r = true ∧ I (i + 1) s') ∨ (r = false ∧ I i s' ∧ R (.ok (.ret (.bool false))) s')) (fun e s' => R (.error e) s') s)
    (fin : ∀ s, I items.size s → R (.ok (.ret (.bool (!false)))) s) {s : Shared} (hl1 : s.heap.get? l = some { cls := .type "tuple", dict := dd, data := .seq items n, slots := sl }) (hb1 : s.heap.get? b = some { cls := .type "tuple", dict := dd2, data := .seq items2 n2, slots := sl2 }) (h : I 0 s) :
    wpAny (model prog w) A.in1 (Builtin.«tuple.__eq__» ⟨[.ref l, .ref b], []⟩) (FinOf prog w A R) (fun e s' => R (.error e) s') s := by
  have f2 := AutoSeq1.sub_tuple_tuple
  have hZ : (items.toList.zip items2.toList).length = items.size := by simp [hsz]
  have h0 := h
  obtain ⟨hp, g, d, tk, os⟩ := s
  wp_walk using wpAny_loadPart' hl1, wpAny_loadPart' hb1, wpAny_forIn_list _ (fun rest b s' => b.1 = none ∧ ∃ i, rest = (items.toList.zip items2.toList).drop i ∧ i ≤ items.size ∧ I i s') _
  case turn =>
    rintro ⟨y, x⟩ rest b s' ⟨hb', i, hz, hi, hI⟩
    have hlt : i < (items.toList.zip items2.toList).length := by
      rcases Nat.lt_or_ge i (items.toList.zip items2.toList).length with h' | h'
      · exact h'
      · rw [List.drop_of_length_le h'] at hz; cases hz
    have h1 : i < items.size := hZ ▸ hlt
    have h2 : i < items2.size := hsz ▸ h1
    rw [List.drop_eq_getElem_cons hlt] at hz
    injection hz with hyx hrest
    have hy : y = items[i] := by have := congrArg Prod.fst hyx; simpa using this
    have hx : x = items2[i] := by have := congrArg Prod.snd hyx; simpa using this
    subst hy hx
    refine wpAny_bind (wpAny_mono (turn i h1 h2 s' hI) (fun r s2 q2 => ?_) fun _ _ x => x)
    rcases q2 with ⟨hr, q2⟩ | ⟨hr, _, q2⟩
    · subst hr
      wp_walk
      exact ⟨rfl, i + 1, hrest, h1, q2⟩
    · subst hr
      wp_walk
      exact q2
  case fin =>
    rintro ⟨b1, b2⟩ s' ⟨hb', i, hz, hi, hI⟩
    simp only at hb'
    subst hb'
    have hge : items.size ≤ i := by
      rcases Nat.lt_or_ge i (items.toList.zip items2.toList).length with h' | h'
      · rw [List.drop_eq_getElem_cons h'] at hz; cases hz
      · exact hZ ▸ h'
    have hi' : i = items.size := by omega
    have hR : R (.ok (.ret (.bool (!false)))) s' := fin s' (hi' ▸ hI)
    wp_walk
    simpa [Builtin.Tuple.tupleCompareSizes, hsz] using hR
  case h =>
    exact ⟨rfl, 0, rfl, Nat.zero_le _, h0⟩
theorem ne_loopB (l b : Addr) (N : Nat) (I : Nat → Shared → Prop) (hl : ListB prog w A R (fun e s' => R (.error e) s') true l b N I)
    (fin : ∀ s, I N s → R (.ok (.ret (.bool (!true)))) s) (k : Nat) :
    ∀ i : Nat, N - i = k → i ≤ N → ∀ s, I i s →
      wpAny (model prog w) A.in1 (Builtin.«list.__eq__.loop» ⟨[.ref l, .ref b, rawInt i, rawInt 3], []⟩) (FinOf prog w A R) (fun e s' => R (.error e) s') s := by
  induction k with
  | zero =>
    intro i hk hi s h
    obtain ⟨items, items2, n, n2, sl, sl2, hl1, hb1, hs1, hs2, _⟩ := hl _ _ h
    have hi' : i = N := by omega
    have hR : R (.ok (.ret (.bool (!true)))) s := fin s (hi' ▸ h)
    obtain ⟨hp, g, d, tk, os⟩ := s
    wp_walk using wpAny_loadPart' hl1, wpAny_loadPart' hb1
    have hi1 : items[((i : Nat) : Int).toNat]? = none := by simp; omega
    have hi2 : items2[((i : Nat) : Int).toNat]? = none := by simp; omega
    rw [hi1, hi2]
    wp_walk using wpAny_loadPart' hl1, wpAny_loadPart' hb1
    show R (.ok (.ret (.bool (items.size != items2.size)))) _
    rw [hs1, hs2]
    simpa using hR
  | succ k ih =>
    intro i hk hi s h
    obtain ⟨items, items2, n, n2, sl, sl2, hl1, hb1, hs1, hs2, turn⟩ := hl _ _ h
    have hlt : i < items.size := by omega
    have hlt2 : i < items2.size := by omega
    have ht := turn hlt hlt2
    obtain ⟨hp, g, d, tk, os⟩ := s
    wp_walk using wpAny_loadPart' hl1, wpAny_loadPart' hb1
    have hi1 : items[((i : Nat) : Int).toNat]? = some items[i] := by simp [hlt]
    have hi2 : items2[((i : Nat) : Int).toNat]? = some items2[i] := by simp [hlt2]
    have hc : ((i : Int) + 1) = ((i + 1 : Nat) : Int) := by omega
    rw [hi1, hi2]
    refine wpAny_bind (wpAny_mono ht (fun r s2 h2 => ?_) fun _ _ x => x)
    rcases h2 with ⟨hr, h2⟩ | ⟨hr, h2, h3⟩
    · subst hr
      have hrec := ih (i + 1) (by omega) (by omega) s2 h2
      obtain ⟨hp2, g2, d2, tk2, os2⟩ := s2
      wp_walk
      rw [hc]
      exact ⟨plainId_quiet plain_eq_loop _, codeAny_builtin entry_eq_loop (by
        rw [Around.under_plainId plain_eq_loop _]
        exact hrec)⟩
    · subst hr
      obtain ⟨itemsB, items2B, nB, n2B, slB, sl2B, hl2, hb2, hs3, hs4, _⟩ := hl _ _ h2
      have hi3 : itemsB[((i : Nat) : Int).toNat]? = some (itemsB[i]'(by omega)) := by simp
      have hi4 : items2B[((i : Nat) : Int).toNat]? = some (items2B[i]'(by omega)) := by simp
      obtain ⟨hp2, g2, d2, tk2, os2⟩ := s2
      wp_walk using wpAny_loadPart' hl2, wpAny_loadPart' hb2
      rw [hi3, hi4]
      wp_walk
      exact h3
theorem list_neB (l b : Addr) (N : Nat) (I : Nat → Shared → Prop) (hl : ListB prog w A R (fun e s' => R (.error e) s') true l b N I)
    (fin : ∀ s, I N s → R (.ok (.ret (.bool (!true)))) s) {s : Shared} (h : I 0 s) :
    wpAny (model prog w) A.in1 (Builtin.«list.__ne__» ⟨[.ref l, .ref b], []⟩) (FinOf prog w A R) (fun e s' => R (.error e) s') s := by
  obtain ⟨items, items2, n, n2, sl, sl2, hl1, hb1, hs1, hs2, _⟩ := hl _ _ h
  have hrec := ne_loopB (A := A) (R := R) l b N I hl fin _ 0 rfl (Nat.zero_le _) s h
  obtain ⟨hp, g, d, tk, os⟩ := s
  have f3 := AutoSeq1.sub_list_list
  have hne : ¬ (items.size != items2.size) = true := by simp [hs1, hs2]
  wp_walk using wpAny_loadPart' hl1, wpAny_loadPart' hb1
  exact ⟨plainId_quiet plain_eq_loop _, codeAny_builtin entry_eq_loop (by
    rw [Around.under_plainId plain_eq_loop _]
    exact hrec)⟩
theorem tuple_neB (l b : Addr) (items items2 : Array Value) (n n2 : Nat) (dd dd2 : Option Addr) (sl sl2 : Array (Option Value)) (hsz : items.size = items2.size) (I : Nat → Shared → Prop)
    (turn : ∀ i (h1 : i < items.size) (h2 : i < items2.size) s, I i s → wpAny (model prog w) A.in1 (eqBool items[i] items2[i]) (fun r s' => (r = true ∧ I (i + 1) s') ∨ (r = false ∧ I i s' ∧ R (.ok (.ret (.bool true))) s')) (fun e s' => R (.error e) s') s)
    (fin : ∀ s, I items.size s → R (.ok (.ret (.bool (!true)))) s) {s : Shared} (hl1 : s.heap.get? l = some { cls := .type "tuple", dict := dd, data := .seq items n, slots := sl }) (hb1 : s.heap.get? b = some { cls := .type "tuple", dict := dd2, data := .seq items2 n2, slots := sl2 }) (h : I 0 s) :
    wpAny (model prog w) A.in1 (Builtin.«tuple.__ne__» ⟨[.ref l, .ref b], []⟩) (FinOf prog w A R) (fun e s' => R (.error e) s') s := by
  have f2 := AutoSeq1.sub_tuple_tuple
  have hZ : (items.toList.zip items2.toList).length = items.size := by simp [hsz]
  have h0 := h
  obtain ⟨hp, g, d, tk, os⟩ := s
  wp_walk using wpAny_loadPart' hl1, wpAny_loadPart' hb1, wpAny_forIn_list _ (fun rest b s' => b.1 = none ∧ ∃ i, rest = (items.toList.zip items2.toList).drop i ∧ i ≤ items.size ∧ I i s') _
  case turn =>
    rintro ⟨y, x⟩ rest b s' ⟨hb', i, hz, hi, hI⟩
    have hlt : i < (items.toList.zip items2.toList).length := by
      rcases Nat.lt_or_ge i (items.toList.zip items2.toList).length with h' | h'
      · exact h'
      · rw [List.drop_of_length_le h'] at hz; cases hz
    have h1 : i < items.size := hZ ▸ hlt
    have h2 : i < items2.size := hsz ▸ h1
    rw [List.drop_eq_getElem_cons hlt] at hz
    injection hz with hyx hrest
    have hy : y = items[i] := by have := congrArg Prod.fst hyx; simpa using this
    have hx : x = items2[i] := by have := congrArg Prod.snd hyx; simpa using this
    subst hy hx
    refine wpAny_bind (wpAny_mono (turn i h1 h2 s' hI) (fun r s2 q2 => ?_) fun _ _ x => x)
    rcases q2 with ⟨hr, q2⟩ | ⟨hr, _, q2⟩
    · subst hr
      wp_walk
      exact ⟨rfl, i + 1, hrest, h1, q2⟩
    · subst hr
      wp_walk
      exact q2
  case fin =>
    rintro ⟨b1, b2⟩ s' ⟨hb', i, hz, hi, hI⟩
    simp only at hb'
    subst hb'
    have hge : items.size ≤ i := by
      rcases Nat.lt_or_ge i (items.toList.zip items2.toList).length with h' | h'
      · rw [List.drop_eq_getElem_cons h'] at hz; cases hz
      · exact hZ ▸ h'
    have hi' : i = items.size := by omega
    have hR : R (.ok (.ret (.bool (!true)))) s' := fin s' (hi' ▸ hI)
    wp_walk
    simpa [Builtin.Tuple.tupleCompareSizes, hsz] using hR
  case h =>
    exact ⟨rfl, 0, rfl, Nat.zero_le _, h0⟩
end
section
open GQ (call_here)
variable {prog : Program} {w : World} {A : Around} {E : Value → Shared → Prop} {s : Shared}
def opB : Bool → CmpOp
  | false => .Eq
  | true => .NotEq
theorem rc_listB {neg : Bool} {l b : Addr} {N : Nat} {Q : Value → Shared → Prop} (hu : A.units < cLine) (I : Nat → Shared → Prop)
    (hl : ListB prog w A (wants (fun v s' => v ≠ .notImplemented ∧ Q v s') E) E neg l b N I)
    (fin : ∀ s, I N s → Q (.bool (!neg)) s) (h : I 0 s) : wpAny (model prog w) A (richCompare (opB neg) (.ref l) (.ref b)) Q E s := by
  obtain ⟨items, items2, n, n2, sl, sl2, hl1, hb1, _, _, _⟩ := hl _ _ h
  cases neg with
  | false =>
    refine wpAny_richCompare_same_room (op := .Eq) ⟨_, hl1, rfl⟩ ⟨_, hb1, rfl⟩ F.slot_list_eq (call_here F.slot_list_eq ⟨_, hl1, rfl⟩ F.entry_list_eq (F.args_list_eq_2 _ _) ?_) hu
    exact list_eqB (R := wants (fun v s' => v ≠ .notImplemented ∧ Q v s') E) l b N I hl (fun s' q => ⟨(fun x => nomatch x), fin s' q⟩) h
  | true =>
    refine wpAny_richCompare_same_room (op := .NotEq) ⟨_, hl1, rfl⟩ ⟨_, hb1, rfl⟩ F.slot_list_ne (call_here F.slot_list_ne ⟨_, hl1, rfl⟩ F.entry_list_ne (F.args_list_ne_2 _ _) ?_) hu
    exact list_neB (R := wants (fun v s' => v ≠ .notImplemented ∧ Q v s') E) l b N I hl (fun s' q => ⟨(fun x => nomatch x), fin s' q⟩) h
theorem rc_tupB {neg : Bool} {l b : Addr} {items items2 : Array Value} {Q : Value → Shared → Prop} (hsz : items.size = items2.size) (hu : A.units < cLine) (I : Nat → Shared → Prop)
    (hl : s.heap.IsTuple l items) (hb : s.heap.IsTuple b items2)
    (turn : ∀ i (h1 : i < items.size) (h2 : i < items2.size) s, I i s → wpAny (model prog w) A.in1 (eqBool items[i] items2[i]) (fun r s' => (r = true ∧ I (i + 1) s') ∨ (r = false ∧ I i s' ∧ Q (.bool neg) s')) E s)
    (fin : ∀ s, I items.size s → Q (.bool (!neg)) s) (h : I 0 s) : wpAny (model prog w) A (richCompare (opB neg) (.ref l) (.ref b)) Q E s := by
  obtain ⟨⟨cls, dd, data, sl⟩, ho, hc, n, hd⟩ := id hl
  obtain ⟨⟨cls2, dd2, data2, sl2⟩, ho2, hc2, n2, hd2⟩ := id hb
  simp only at hc hd hc2 hd2
  subst hc hd hc2 hd2
  have tn : ∀ i (h1 : i < items.size) (h2 : i < items2.size) s, I i s → wpAny (model prog w) A.in1 (eqBool items[i] items2[i]) (fun r s' => (r = true ∧ I (i + 1) s') ∨ (r = false ∧ I i s' ∧ wants (fun v s' => v ≠ .notImplemented ∧ Q v s') E (.ok (.ret (.bool neg))) s')) E s := fun i h1 h2 s q =>
    wpAny_mono (turn i h1 h2 s q) (fun r s' z => z.imp id fun ⟨a, b, c⟩ => ⟨a, b, (fun x => nomatch x), c⟩) fun _ _ x => x
  cases neg with
  | false =>
    refine wpAny_richCompare_same_room (op := .Eq) ⟨_, ho, rfl⟩ ⟨_, ho2, rfl⟩ F.slot_tuple_eq (call_here F.slot_tuple_eq ⟨_, ho, rfl⟩ F.entry_tuple_eq (F.args_tuple_eq_2 _ _) ?_) hu
    exact tuple_eqB (R := wants (fun v s' => v ≠ .notImplemented ∧ Q v s') E) l b items items2 n n2 dd dd2 sl sl2 hsz I tn (fun s' q => ⟨(fun x => nomatch x), fin s' q⟩) ho ho2 h
  | true =>
    refine wpAny_richCompare_same_room (op := .NotEq) ⟨_, ho, rfl⟩ ⟨_, ho2, rfl⟩ F.slot_tuple_ne (call_here F.slot_tuple_ne ⟨_, ho, rfl⟩ F.entry_tuple_ne (F.args_tuple_ne_2 _ _) ?_) hu
    exact tuple_neB (R := wants (fun v s' => v ≠ .notImplemented ∧ Q v s') E) l b items items2 n n2 dd dd2 sl sl2 hsz I tn (fun s' q => ⟨(fun x => nomatch x), fin s' q⟩) ho ho2 h
end
end GB
namespace PySem.W
open PySem PySem.Spec PySem.Calls PyProof.Rows
section
variable {prog : Program} {w : World} {A : Around} {E : Value → Shared → Prop} {s : Shared} {K : Frag} {x C f : Addr} {ox : Obj} {od : Option Obj} {b tb : Value}
theorem objNe_bind (self : Value) : bindSpecial (.builtin "object.__ne__") self = pure (.builtin "object.__ne__", [self]) :=
  (Slot.of (T := "object") (name := "__ne__") (owner := "object") (n := "__ne__") (by rw [typeLookup_type, builtinLookup_eq_fast]; kernel_rfl) (by decide +kernel) (by decide +kernel) (by decide +kernel)
    (.inl (by decide +kernel)) (by rw [isSubtype_type]; kernel_rfl)).bind self
/-- by the own __ne__ of object: the own == turned -/
theorem tryNe_K {Q : Option Value → Shared → Prop} (hu : A.units + 1 < cLine) (X : K.In s.heap) (I : InstAt s.heap x ox C od) (hn : findIn K (.ref C) "__ne__" = some (some (.builtin "object.__ne__"))) (hs : findIn K (.ref C) "__eq__" = some (some (.ref f))) (hf : isFn K (.ref f) = true)
    (ho : subIn K (.ref C) (.type "object") = some true)
    (h : wpAny (model prog w) A.in1 (call (.ref f) [.ref x, b]) (fun v s' => ∃ r, v = .bool r ∧ Q (some (.bool (!r))) s') E s) : wpAny (model prog w) A (tryCompare (.ref x) "__ne__" b) Q E s := by
  have body : ∀ {Q : Fin → Shared → Prop}, wpAny (model prog w) A.in1 (call (.ref f) [.ref x, b]) (fun v s' => ∃ r, v = .bool r ∧ Q (.done (.ret (.bool (!r)))) s') E s → wpAny (model prog w) A.in1 (Builtin.«object.__ne__» ⟨[.ref x, b], []⟩) Q E s := by
    intro Q h
    unfold Builtin.«object.__ne__»
    have hu1 : A.in1.units < cLine := by first | exact hu | (simp [Around.in1]; exact hu) | (simp [Around.in1] at *; omega)
    refine wpAny_bind (wpAny_of_eq (a := ((Value.ref x : Value), [b])) (by first | rfl | (simp only [slotArgs]; rfl)) ?_)
    refine wpAny_bind (wpAny_cRoomFor hu1 ?_)
    refine wpAny_bind (ifBound_K X I hs hf (wpAny_mono h (fun v s' hv => ?_) fun _ _ e => e))
    obtain ⟨r, rfl, hq⟩ := hv
    refine wpAny_bind (wpAny_truthy_bool ?_)
    exact wpAny_pure hq
  unfold tryCompare
  refine wpAny_bind ?_
  simp only [callSpecialIfBound?, bindSpecialIfBound?]
  refine wpAny_holding (wpAny_bind (wpAny_bind (wpAny_bind (I.type.here ((looks_findIn X hn).here ?_)))))
  simp only [objNe_bind]
  have sub : Looks (model prog w) s.heap (isInstance (.ref x) (.type "object")) true := (I.type).andThen (looks_subIn X ho)
  have fin : wpAny (model prog w) A (call (.builtin "object.__ne__") ([.ref x] ++ [b]) >>= fun v => pure (some v)) (fun a s' => wpAny (model prog w) A (match a with | some .notImplemented | none => pure none | some v => pure (some v)) Q E s') E s := by
    refine wpAny_bind (wpAny_call (codeAny_call_builtin (by decide +kernel) F.cmpEntry_ne (check_slot F.cmpKind_ne F.cmpSplit_ne sub (F.cmpArgs_ne _ _) ?_)))
    refine wpAny_mono (body (Q := fun fin s' => ∃ r, fin = .done (.ret (.bool r)) ∧ Q (some (.bool r)) s') (wpAny_mono h (fun v s' hv => ?_) fun _ _ e => e)) (fun fin s' hv => ?_) fun _ _ e => e
    · obtain ⟨r, rfl, hq⟩ := hv
      exact ⟨r, rfl, _, rfl, hq⟩
    · obtain ⟨r, rfl, hq⟩ := hv
      exact wpAny_pure (wpAny_pure hq)
  refine wpAny_bind (wpAny_askSetting (wpAny_ite ?_))
  split
  · exact wpAny_bind (wpAny_pure (wpAny_pure fin))
  · exact wpAny_tryCatch (wpAny_bind (wpAny_pure (wpAny_pure fin)))
end
end PySem.W
/-! FL9: == of data with instances in it. -/
namespace DL
open PySem L2
/-! ### two readings of one value -/
section
variable {F : Fz}
mutual
theorem rep_same : ∀ {v : V} {a b : D}, Rep F v a → Rep F v b → same a b = true
  | _, _, b, .non, h => by cases h; simp [same]
  | _, _, b, .bl _, h => by cases h; simp [same]
  | _, _, b, .int _, h => by cases h; simp [same]
  | _, _, b, .str _, h => by cases h; simp [same]
  | _, _, b, .ty _, h => by cases h; simp [same]
  | _, _, b, .lst e r, h => by
    cases h with
    | lst e' r' => rw [e] at e'; cases e'; simp only [same]; exact reps_same r r'
    | tup e' r' => rw [e] at e'; cases e'
    | dic e' r' => rw [e] at e'; cases e'
    | ins e' r' => rw [e] at e'; cases e'
    | exc e' r' => simp [same]
    | mem e' => rw [e] at e'; cases e'
  | _, _, b, .tup e r, h => by
    cases h with
    | lst e' r' => rw [e] at e'; cases e'
    | tup e' r' => rw [e] at e'; cases e'; simp only [same]; exact reps_same r r'
    | dic e' r' => rw [e] at e'; cases e'
    | ins e' r' => rw [e] at e'; cases e'
    | exc e' r' => simp [same]
    | mem e' => rw [e] at e'; cases e'
  | _, _, b, .dic e r, h => by
    cases h with
    | lst e' r' => rw [e] at e'; cases e'
    | tup e' r' => rw [e] at e'; cases e'
    | dic e' r' => rw [e] at e'; cases e'; simp only [same]; exact repK_same r r'
    | ins e' r' => rw [e] at e'; cases e'
    | exc e' r' => simp [same]
    | mem e' => rw [e] at e'; cases e'
  | _, _, b, .ins e r, h => by
    cases h with
    | lst e' r' => rw [e] at e'; cases e'
    | tup e' r' => rw [e] at e'; cases e'
    | dic e' r' => rw [e] at e'; cases e'
    | ins e' r' => rw [e] at e'; cases e'; simp only [same, decide_true, Bool.true_and]; exact repF_same r r'
    | exc e' r' => simp [same]
    | mem e' => rw [e] at e'; cases e'
  | _, _, b, .exc e r, h => by simp [same]
  | _, _, b, .mem e, h => by
    cases h with
    | lst e' r' => rw [e] at e'; cases e'
    | tup e' r' => rw [e] at e'; cases e'
    | dic e' r' => rw [e] at e'; cases e'
    | ins e' r' => rw [e] at e'; cases e'
    | exc e' r' => simp [same]
    | mem e' => simp [same]
theorem reps_same : ∀ {v : List V} {a b : List D}, Reps F v a → Reps F v b → sames a b = true
  | _, _, _, .nil, .nil => by simp [sames]
  | _, _, _, .cons h r, .cons h' r' => by simp [sames, rep_same h h', reps_same r r']
theorem repK_same : ∀ {v : List (Key × V)} {a b : List (Key × D)}, RepK F v a → RepK F v b → sameK a b = true
  | _, _, _, .nil, .nil => by simp [sameK]
  | _, _, _, .cons h r, .cons h' r' => by simp [sameK, rep_same h h', repK_same r r']
theorem repF_same : ∀ {v : List (Str × V)} {a b : List (Str × D)}, RepF F v a → RepF F v b → sameF a b = true
  | _, _, _, .nil, .nil => by simp [sameF]
  | _, _, _, .cons h r, .cons h' r' => by simp [sameF, rep_same h h', repF_same r r']
end
end
mutual
theorem same_plain : ∀ (n : Nat) (a b : D) (m : Nat), same a b = true → plain n a = true → plain m b = true → a = b
  | _, .non, b, m, h, _, q => by cases b <;> first | rfl | (exfalso; cases m <;> simp [plain] at q; done) | (simp [same] at h; done)
  | _, .bl _, b, m, h, _, q => by cases b <;> first | (exfalso; cases m <;> simp [plain] at q; done) | (simp [same] at h; subst h; rfl) | (simp [same] at h; done)
  | _, .int _, b, m, h, _, q => by cases b <;> first | (exfalso; cases m <;> simp [plain] at q; done) | (simp [same] at h; subst h; rfl) | (simp [same] at h; done)
  | _, .str _, b, m, h, _, q => by cases b <;> first | (exfalso; cases m <;> simp [plain] at q; done) | (simp [same] at h; subst h; rfl) | (simp [same] at h; done)
  | 0, .lst xs, _, _, _, p, _ => by simp [plain] at p
  | n + 1, .lst xs, b, m, h, p, q => by
    cases b with
    | lst ys => cases m with
      | zero => simp [plain] at q
      | succ m => exact congrArg _ (sames_plain n xs ys m (by simpa [same] using h) (by simpa [plain] using p) (by simpa [plain] using q))
    | exc => cases m <;> simp [plain] at q
    | _ => simp [same] at h
  | 0, .tup xs, _, _, _, p, _ => by simp [plain] at p
  | n + 1, .tup xs, b, m, h, p, q => by
    cases b with
    | tup ys => cases m with
      | zero => simp [plain] at q
      | succ m => exact congrArg _ (sames_plain n xs ys m (by simpa [same] using h) (by simpa [plain] using p) (by simpa [plain] using q))
    | exc => cases m <;> simp [plain] at q
    | _ => simp [same] at h
  | n, .ty _, _, _, _, p, _ => by cases n <;> simp [plain] at p
  | n, .dic _, _, _, _, p, _ => by cases n <;> simp [plain] at p
  | n, .ins _ _, _, _, _, p, _ => by cases n <;> simp [plain] at p
  | n, .exc _ _ _ _, _, _, _, p, _ => by cases n <;> simp [plain] at p
  | n, .mem _ _, _, _, _, p, _ => by cases n <;> simp [plain] at p
theorem sames_plain : ∀ (n : Nat) (a b : List D) (m : Nat), sames a b = true → plains n a = true → plains m b = true → a = b
  | _, [], b, _, h, _, _ => by cases b <;> first | rfl | (simp [sames] at h)
  | n, x :: r, b, m, h, p, q => by
    cases b with
    | nil => simp [sames] at h
    | cons y r' =>
      have h' : same x y = true ∧ sames r r' = true := by simpa [sames] using h
      have p' : plain n x = true ∧ plains n r = true := by simpa [plains] using p
      have q' : plain m y = true ∧ plains m r' = true := by simpa [plains] using q
      rw [same_plain n x y m h'.1 p'.1 q'.1, sames_plain n r r' m h'.2 p'.2 q'.2]
end
theorem eqPl_refl {F : Fz} {v : V} {a b : D} {r : Bool} (h : Rep F v a) (k : Rep F v b) (e : eqPl a b = some r) : r = true := by
  unfold eqPl at e
  split at e
  · rename_i hp
    have := same_plain 64 a b 64 (rep_same h k) hp.1 hp.2
    subst this
    cases e
    exact SeqAt.eqv_refl _ (py_ok 64 a hp.1).1
  · cases e
theorem guard_refl {F : Fz} {v : V} {a b : D} {r r' : Bool} (h : Rep F v a) (k : Rep F v b) (e : (if r' = true ∨ same a b = false then some r' else none) = some r) : r = true := by
  split at e
  · rename_i hp
    cases e
    rcases hp with z | z
    · exact z
    · rw [rep_same h k] at z; cases z
  · cases e
theorem ownEq_refl {fe : EqF} {F : Fz} {v : V} {C : Addr} {a b : D} {r : Bool} (h : Rep F v a) (k : Rep F v b) (e : ownEq fe C a b = some r) : r = true := by
  unfold ownEq at e
  obtain ⟨G, _, e⟩ := Option.bind_eq_some_iff.mp e
  obtain ⟨r', _, e⟩ := Option.bind_eq_some_iff.mp e
  exact guard_refl h k e
theorem allE_refl {f : D → D → Option Bool} {F : Fz} (hf : ∀ v a b r, Rep F v a → Rep F v b → f a b = some r → r = true) : ∀ {vs : List V} {xs ys : List D} {r : Bool}, Reps F vs xs → Reps F vs ys → allE f xs ys = some r → r = true
  | _, _, _, r, .nil, .nil, e => by simp [allE] at e; exact e.symm ▸ rfl
  | _, _, _, r, .cons h t, .cons h' t', e => by
    simp only [allE] at e
    split at e
    · exact allE_refl hf t t' e
    · rename_i q; cases hf _ _ _ _ h h' q
    · cases e
theorem eqA_refl {fe : EqF} {F : Fz} : ∀ (n : Nat) (v : V) (a b : D) (r : Bool), Rep F v a → Rep F v b → eqA fe n a b = some r → r = true
  | 0, _, _, _, _, _, _, e => by simp [eqA] at e
  | n + 1, v, a, b, r, h, k, e => by
    unfold eqA at e
    split at e
    · rename_i q; cases e; exact eqPl_refl h k q
    · split at e
      · split at e
        · cases h with
          | lst e1 r1 => cases k with
            | lst e2 r2 =>
              rw [e1] at e2; cases e2
              exact allE_refl (eqA_refl n) r1 r2 e
        · rename_i hne
          cases h with
          | lst e1 r1 => cases k with
            | lst e2 r2 =>
              rw [e1] at e2; cases e2
              exact absurd (r1.length.symm.trans r2.length) hne
      · split at e
        · cases h with
          | tup e1 r1 => cases k with
            | tup e2 r2 =>
              rw [e1] at e2; cases e2
              exact allE_refl (eqA_refl n) r1 r2 e
        · cases e
      · split at e
        · obtain ⟨r', _, e⟩ := Option.bind_eq_some_iff.mp e
          exact guard_refl h k e
        · rename_i hne
          cases h with
          | dic e1 r1 => cases k with
            | dic e2 r2 =>
              rw [e1] at e2; cases e2
              exact absurd (r1.length.symm.trans r2.length) hne
      · split at e
        · exact ownEq_refl h k e
        · cases e
      all_goals first | exact ownEq_refl h k e | cases e
/-! ### the walk -/
structure SubG (X : Cx) (n : Nat) (A : Around) : Prop where
  room : RoomG n A
  fr : A.frames = X.A.frames
theorem SubG.in1 {X : Cx} {n : Nat} {A : Around} (s : SubG X (n + 1) A) : SubG X n A.in1 := ⟨s.room.in1, s.fr⟩
theorem SubG.mono {X : Cx} {n m : Nat} {A : Around} (s : SubG X m A) (h : n ≤ m) : SubG X n A := ⟨s.room.mono h, s.fr⟩
def kinds : List String := ["NoneType", "bool", "int", "str", "list", "tuple", "dict"]
structure EqC (X : Cx) (m : Nat) (C : Addr) (F : FF) : Prop where
  ex : ∃ f fd ps, PySem.W.findIn X.K (.ref C) "__eq__" = some (some (.ref f)) ∧ PySem.W.isFn X.K (.ref f) = true ∧ Binds X.K fd ps [] ∧ FnG X.prog X.w X.K X.mg X.base CX0 m f fd ps (liftSp (fnN F))
  ne : PySem.W.findIn X.K (.ref C) "__ne__" = some (some (.builtin "object.__ne__"))
  ob : PySem.W.subIn X.K (.ref C) (.type "object") = some true
  no : ∀ T ∈ kinds, PySem.W.subIn X.K (.type T) (.ref C) = some false
structure EqOk (X : Cx) (m : Nat) (fe : EqF) : Prop where
  own : ∀ C F, fe C = some F → EqC X m C F
  two : ∀ C C' F F', fe C = some F → fe C' = some F' → PySem.W.notFirst X.K C (.ref C') = true
theorem eqOk_no {X : Cx} {m : Nat} : EqOk X m noEq := ⟨(fun _ _ h => by cases h), (fun _ _ _ _ h => by cases h)⟩
def PostE (X : Cx) (pins : List (Addr × Obj)) (σ : L2.St) (H : Hp) (s' : Shared) : Prop := ∃ H', Inv X pins σ H' s' ∧ Ext H H'
def RcB (X : Cx) (n : Nat) (neg : Bool) (a b : D) (r : Bool) : Prop := ∀ (A : Around) (pins : List (Addr × Obj)) (s : Shared) (σ : L2.St) (H : Hp) (F : Fz) (x y : V) (u v : Value), SubG X n A → Inv X pins σ H s → Sits F H → Rep F x a → Rep F y b → RelV x u → RelV y v →
  wpAny (model X.prog X.w) A (richCompare (GB.opB neg) u v) (fun q s' => q = .bool (r ^^ neg) ∧ PostE X pins σ H s') X.xe s
def EqB (X : Cx) (n : Nat) (a b : D) (r : Bool) : Prop := ∀ (A : Around) (pins : List (Addr × Obj)) (s : Shared) (σ : L2.St) (H : Hp) (F : Fz) (x y : V) (u v : Value), SubG X n A → Inv X pins σ H s → Sits F H → Rep F x a → Rep F y b → RelV x u → RelV y v →
  wpAny (model X.prog X.w) A (eqBool u v) (fun q s' => q = r ∧ PostE X pins σ H s') X.xe s
section
variable {X : Cx} {n m : Nat} {a b : D} {r neg : Bool} {fe : EqF}
theorem Sits.ext {F : Fz} {H H' : Hp} (h : Sits F H) (e : Ext H H') : Sits F H' := fun a fo q => by
  have z := h a fo q
  cases fo with
  | soft d => obtain ⟨o, _, w⟩ := z; exact w.elim
  | hard o =>
    obtain ⟨u, hu⟩ := Rx.some (show Rx H a o from z)
    exact Rx.at_ (show Rx H a o from z) ((e a u hu).trans hu.symm)
theorem rcB_plain (e : eqPl a b = some r) : RcB X n neg a b r := by
  intro A pins s σ H F x y u v sb I S ra rb rx ry
  unfold eqPl at e
  split at e
  · rename_i hp
    cases e
    obtain ⟨as, r1⟩ := Dp.reads I _ _ _ (ra.dp S 64 a hp.1) rx
    obtain ⟨bs, r2⟩ := Dp.reads I _ _ _ (rb.dp S 64 b hp.2) ry
    cases neg with
    | false => exact SeqAt.compareEq_shaped r1 r2 (shaped_of hp.1 (Nat.le_refl _)) (shaped_of hp.2 (Nat.le_refl _)) sb.room.units ⟨by simp, H, I, Ext.rfl'⟩
    | true => exact SeqAt.compareNe_shaped r1 r2 (shaped_of hp.1 (Nat.le_refl _)) (shaped_of hp.2 (Nat.le_refl _)) sb.room.units ⟨by simp, H, I, Ext.rfl'⟩
  · cases e
theorem eqAt_pl {A : Around} {pins : List (Addr × Obj)} {s : Shared} {σ : L2.St} {H : Hp} {F : Fz} {x y : V} {u v : Value} (e : eqPl a b = some r) (hu : A.units + 64 < cLine) (I : Inv X pins σ H s) (S : Sits F H) (ra : Rep F x a) (rb : Rep F y b) (rx : RelV x u) (ry : RelV y v) : SeqAt.EqAt A s u v r := by
  unfold eqPl at e
  split at e
  · rename_i hp
    cases e
    obtain ⟨as, r1⟩ := Dp.reads I _ _ _ (ra.dp S 64 a hp.1) rx
    obtain ⟨bs, r2⟩ := Dp.reads I _ _ _ (rb.dp S 64 b hp.2) ry
    have h1 := py_ok 64 a hp.1
    have h2 := py_ok 64 b hp.2
    exact SeqAt.eqAt_reads _ _ A s u v as bs r1 r2 h1.1 h2.1 (by have := h1.2; omega)
  · cases e
theorem eqB_plain (e : eqPl a b = some r) : EqB X n a b r := by
  intro A pins s σ H F x y u v sb I S ra rb rx ry
  exact eqAt_pl e sb.room.units I S ra rb rx ry X.prog X.w X.xe _ ⟨rfl, H, I, Ext.rfl'⟩
/-- what is no flat value -/
def D.isRef : D → Bool
  | .lst _ => true
  | .tup _ => true
  | .dic _ => true
  | .ins _ _ => true
  | _ => false
theorem rep_ref {F : Fz} {v : V} {a : D} (h : Rep F v a) (e : a.isRef = true) : ∃ p, v = .ref p := by
  cases h <;> first | exact ⟨_, rfl⟩ | (simp [D.isRef] at e)
/-- == of two different things inside a builtin, the first one a reference -/
theorem eqBool_refV {prog : Program} {w : World} {A : Around} {E : Value → Shared → Prop} {s : Shared} {l : Addr} {v : Value} {Q : Bool → Shared → Prop} (hne : v ≠ .ref l) (h : wpAny (model prog w) A (richCompare .Eq (.ref l) v) (fun v s' => ∃ r, v = .bool r ∧ Q r s') E s) : wpAny (model prog w) A (eqBool (.ref l) v) Q E s := by
  unfold eqBool
  refine wpAny_holding ?_
  refine wpAny_ite_split (fun hab => absurd (eq_of_beq hab).symm hne) (fun _ => ?_)
  refine wpAny_bind (wpAny_mono h (fun v s' hv => ?_) fun _ _ x => x)
  obtain ⟨r, rfl, q⟩ := hv
  exact wpAny_truthy_bool q
theorem eqB_of (hr : RcB X n false a b r) (ha : a.isRef = true) (rf : ∀ F v, Rep F v a → Rep F v b → r = true) : EqB X n a b r := by
  intro A pins s σ H F x y u v sb I S ra rb rx ry
  obtain ⟨p, rfl⟩ := rep_ref ra ha
  cases rx
  have fin : (v ≠ .ref p) → wpAny (model X.prog X.w) A (eqBool (.ref p) v) (fun q s' => q = r ∧ PostE X pins σ H s') X.xe s := fun hne =>
    eqBool_refV hne (wpAny_mono (hr A pins s σ H F _ _ _ _ sb I S ra rb rfl ry) (fun q s' z => ⟨r, by simpa using z.1, rfl, z.2⟩) fun _ _ x => x)
  by_cases e : v = .ref p
  · subst e
    have : y = .ref p := by
      cases y <;> first | (obtain ⟨_, z⟩ := ry; cases z; done) | (cases ry; done) | (cases ry; rfl)
    subst this
    have := rf F _ ra rb
    subst this
    exact SeqAt.EqAt.same (A := A) (s := s) (.ref p) X.prog X.w X.xe _ ⟨rfl, H, I, Ext.rfl'⟩
  · exact fin e
end
end DL
/-! FL10: == of data with instances in it, joined. -/
namespace DL
open PySem L2
section
open PySem.Spec PyProof.Rows
variable {X : Cx} {n m : Nat} {a b : D} {r neg : Bool} {fe : EqF}
/-- the own == runs -/
theorem own_run {A : Around} {pins : List (Addr × Obj)} {s : Shared} {σ : L2.St} {H : Hp} {F : Fz} {x y : V} {u v : Value} {f : Addr} {G : FF} {fd : FuncData} {ps : List Str} (hb : Binds X.K fd ps []) (g : FnG X.prog X.w X.K X.mg X.base CX0 m f fd ps (liftSp (fnN G)))
    (sb : SubG X m A) (I : Inv X pins σ H s) (S : Sits F H) (ra : Rep F x a) (rb : Rep F y b) (rx : RelV x u) (ry : RelV y v) (e : (G [.fz a, .fz b]).eqv = some r) :
    wpAny (model X.prog X.w) A (call (.ref f) [u, v]) (fun q s' => q = .bool r ∧ PostE X pins σ H s') X.xe s := by
  have ext : ∀ {F' : Fz} {H' : Hp} {ns : List D}, Back F H [x, y] [.fz a, .fz b] F' H' ns → Ext H H' := fun bk p o hp => bk.go.keep p o hp (fun z => by simp [bwA] at z) (fun ⟨d, z⟩ => by obtain ⟨_, _, w⟩ := S p _ z; exact w.elim)
  have hsp : liftSp (fnN G) [x, y] H (fun v H' => v = .bl r ∧ Ext H H') E0 := by
    refine ⟨F, [.fz a, .fz b], ⟨fun d ns => d = .bl r, fun d ns => d = .bl r, fun _ _ _ => False⟩, S, .fz ra (.fz rb .nil), by simp [bwA], ?_, ?_, ?_, ?_⟩
    · unfold fnN
      unfold FR.eqv at e
      split at e <;> rename_i q
      · cases e; rw [q]
      · cases e; rw [q]
      · cases e
    · rintro d ns w F' H' rfl bk rep
      cases rep
      exact ⟨rfl, ext bk⟩
    · rintro d ns p F' H' rfl bk _ ow _
      exact ow.elim
    · intro _ _ _ _ _ _ _ z
      exact z.elim
  have e0 : Env0 X.prog X.w X.K X.mg X.base A X.stack s H := by
    have e := I.env0
    exact ⟨by rw [sb.fr]; exact e.frames, e.mod, e.bs, e.bsz, e.funs, e.frf, e.hok, e.bare⟩
  have hl := g.len _ _ _ _ hsp
  have r2 : Vals [x, y] [u, v] := .cons rx (.cons ry .nil)
  refine wpAny_call (codeAny_mono (g.go A X.stack s H ⟨[u, v], []⟩ [u, v] [x, y] _ E0 sb.room e0 (by
    have := hb s [u, v] I.kIn (by simpa using hl)
    simpa using this) r2 hsp) fun z s' hq => ?_)
  cases z with
  | error e => exact hq.elim
  | ok fl =>
    cases fl with
    | ret w =>
      obtain ⟨z, H', I', rz, ez, ex⟩ := I.after hq
      subst ez
      cases rz
      exact ⟨rfl, H', I', ex⟩
    | next => exact False.elim hq
    | brk => exact False.elim hq
    | cont => exact False.elim hq
theorem typeIs_of {F : Fz} {H : Hp} {pins : List (Addr × Obj)} {s : Shared} {σ : L2.St} {y : V} {v : Value} (I : Inv X pins σ H s) (S : Sits F H) (rb : Rep F y b) (ry : RelV y v) :
    match b with
    | .non => s.TypeIs v "NoneType"
    | .bl _ => s.TypeIs v "bool"
    | .int _ => s.TypeIs v "int"
    | .str _ => s.TypeIs v "str"
    | .lst _ => s.TypeIs v "list"
    | .tup _ => s.TypeIs v "tuple"
    | .dic _ => s.TypeIs v "dict"
    | _ => True := by
  cases rb with
  | non => cases ry; rfl
  | bl b => cases ry; rfl
  | int i => obtain ⟨t, rfl⟩ := ry; exact typeIs_int s i t
  | str i => obtain ⟨t, rfl⟩ := ry; exact typeIs_str s i t
  | ty => trivial
  | lst e r =>
    cases ry
    obtain ⟨its, _, ⟨o, n, e1, hc, _, _⟩, _⟩ := I.list (a := _) (.inl (show Rd H _ (.lst _) from S _ _ e))
    exact ⟨o, e1, hc⟩
  | tup e r =>
    cases ry
    obtain ⟨its, _, ⟨o, e1, hc, _⟩, _⟩ := I.tuple (a := _) (.inl (show Rd H _ (.tup _) from S _ _ e))
    exact ⟨o, e1, hc⟩
  | dic e r =>
    cases ry
    obtain ⟨_, _, vs, _, d⟩ := dk_rd (P := X.prog) (w := X.w) I.hok (show Rd H _ (.dK _) from S _ _ e)
    exact d.typeIs
  | ins => trivial
  | exc => trivial
  | mem => trivial
theorem rcB_own {C : Addr} {fs : List (Str × D)} (ok : EqOk X m fe) (e : ownEq fe C (.ins C fs) b = some r) (hk : (∃ C' gs G, b = .ins C' gs ∧ fe C' = some G) ∨ b = .non ∨ (∃ z, b = .bl z) ∨ (∃ z, b = .int z) ∨ (∃ z, b = .str z) ∨ (∃ z, b = .lst z) ∨ (∃ z, b = .tup z) ∨ (∃ z, b = .dic z)) : RcB X (m + 1) neg (.ins C fs) b r := by
  intro A pins s σ H F x y u v sb I S ra rb rx ry
  unfold ownEq at e
  obtain ⟨G, hG, e⟩ := Option.bind_eq_some_iff.mp e
  obtain ⟨r', hr', e⟩ := Option.bind_eq_some_iff.mp e
  have er : r' = r := by split at e <;> cases e; rfl
  subst er
  have ec := ok.own C G hG
  obtain ⟨f, fd, ps, hs, hf, hb, g⟩ := ec.ex
  have ra0 := ra
  cases ra with
  | @ins p C dx vs ds eF rF =>
    cases rx
    have hH : H p = some (.ins C dx vs) := S p _ eF
    obtain ⟨mA, J, _⟩ := ins_get I.hok hH
    obtain ⟨od, J, _⟩ := J.look
    have look : ∃ tb, PySem.W.Looks (model X.prog X.w) s.heap (typeOf v) tb ∧ PySem.W.notFirst X.K C tb = true := by
      have flat : ∀ T ∈ kinds, s.TypeIs v T → ∃ tb, PySem.W.Looks (model X.prog X.w) s.heap (typeOf v) tb ∧ PySem.W.notFirst X.K C tb = true := fun T hT ht => by
        refine ⟨.type T, ?_, by unfold PySem.W.notFirst; rw [ec.no T hT]; simp⟩
        intro A' Q' E' s' k q
        cases v <;> first
          | (exact wpAny_typeOf_ref (k _ _ ht.choose_spec.1) (by rw [ht.choose_spec.2]; exact q))
          | (exact wpAny_typeOf (show s'.TypeIs _ T from ht) q)
      have tt := typeIs_of I S rb ry
      rcases hk with ⟨C', gs, G', rfl, hG'⟩ | rfl | ⟨z, rfl⟩ | ⟨z, rfl⟩ | ⟨z, rfl⟩ | ⟨z, rfl⟩ | ⟨z, rfl⟩ | ⟨z, rfl⟩
      · cases rb with
        | @ins q C' dy ws ds' eF' rF' =>
          cases ry
          have hH' : H q = some (.ins C' dy ws) := S q _ eF'
          obtain ⟨mB, J', _⟩ := ins_get I.hok hH'
          obtain ⟨od', J', _⟩ := J'.look
          exact ⟨.ref C', J'.type, ok.two C C' G G' hG hG'⟩
      · exact flat _ (by simp [kinds]) tt
      · exact flat _ (by simp [kinds]) tt
      · exact flat _ (by simp [kinds]) tt
      · exact flat _ (by simp [kinds]) tt
      · exact flat _ (by simp [kinds]) tt
      · exact flat _ (by simp [kinds]) tt
      · exact flat _ (by simp [kinds]) tt
    obtain ⟨tb, hL, hnf⟩ := look
    obtain ⟨mm, hF⟩ := I.fr
    have hu : A.units < cLine := Nat.lt_of_succ_lt sb.room.units1
    cases neg with
    | false =>
      refine PySem.W.cmp_K (op := .Eq) (tb := tb) hu hF I.ok.mod.kin J hL hnf hs hf ?_
      refine wpAny_mono (own_run hb g (sb.mono (Nat.le_succ _)) I S ra0 rb (x := .ref p) rfl ry hr') (fun q s' z => ?_) fun _ _ x => x
      obtain ⟨rfl, z⟩ := z
      exact ⟨by simp, z⟩
    | true =>
      have X1 := I.kIn
      have one : wpAny (model X.prog X.w) A (tryCompare (.ref p) "__ne__" v) (fun q s' => ∃ w, q = some w ∧ (w = .bool (!r') ∧ PostE X pins σ H s')) X.xe s := by
        refine PySem.W.tryNe_K sb.room.units1 X1 J ec.ne hs hf ec.ob ?_
        refine wpAny_mono (own_run hb g sb.in1 I S ra0 rb (x := .ref p) rfl ry hr') (fun q s' z => ?_) fun _ _ x => x
        obtain ⟨rfl, z⟩ := z
        exact ⟨r', rfl, _, rfl, rfl, z⟩
      show wpAny _ A (richCompare .NotEq (.ref p) v) _ _ s
      unfold richCompare
      simp only [oneThing_ref]
      refine wpAny_holding (wpAny_bind (wpAny_cRoomFor hu ?_))
      rw [cmpInfo_NotEq]
      dsimp only
      refine wpAny_bind (J.type.here (wpAny_bind (hL.here ?_)))
      have fin : ∀ {β : Option Value → Sem Value} {Q : Value → Shared → Prop}, (∀ w, β (some w) = pure w) → wpAny (model X.prog X.w) A (tryCompare (.ref p) "__ne__" v >>= β) (fun q s' => q = .bool (r' ^^ true) ∧ PostE X pins σ H s') X.xe s := fun {β Q} hβ => by
        refine wpAny_bind (wpAny_mono one (fun q s' z => ?_) fun _ _ e => e)
        obtain ⟨w, rfl, rfl, z⟩ := z
        rw [hβ]
        exact wpAny_pure ⟨by simp, z⟩
      split
      · rename_i q
        have e : PySem.W.subIn X.K tb (.ref C) = some false := by
          rcases Bool.or_eq_true_iff.mp hnf with e | e
          · rw [beq_iff_eq.mp e] at q; simp at q
          · exact beq_iff_eq.mp e
        refine wpAny_bind ((PySem.W.looks_subIn X1 e).here ?_)
        simp only [Bool.false_eq_true, if_false]
        exact fin (Q := fun _ _ => True) fun w => rfl
      · refine wpAny_bind (wpAny_pure ?_)
        simp only [Bool.false_eq_true, if_false]
        exact fin (Q := fun _ _ => True) fun w => rfl
/-- a walk over items in pairs -/
def LpI (X : Cx) (pins : List (Addr × Obj)) (σ : L2.St) (H : Hp) (f : D → D → Option Bool) (xs ys : List D) (r : Bool) (i : Nat) (s' : Shared) : Prop := PostE X pins σ H s' ∧ allE f (xs.drop i) (ys.drop i) = some r
theorem lp_turn {A : Around} {pins : List (Addr × Obj)} {σ : L2.St} {H : Hp} {F : Fz} {k : Nat} {f : D → D → Option Bool} {vs ws : List V} {xs ys : List D} {its its2 : List Value} (sb : SubG X (k + 1) A) (S : Sits F H) (q1 : Reps F vs xs) (q2 : Reps F ws ys) (r1 : Vals vs its) (r2 : Vals ws its2)
    (hf : ∀ a b r, f a b = some r → EqB X k a b r) (i : Nat) (h1 : i < its.toArray.size) (h2 : i < its2.toArray.size) (s' : Shared) (l : LpI X pins σ H f xs ys r i s') {P : Shared → Prop} (hP : ∀ s2, r = false → PostE X pins σ H s2 → P s2) :
    wpAny (model X.prog X.w) A.in1 (eqBool its.toArray[i] its2.toArray[i]) (fun q s2 => (q = true ∧ LpI X pins σ H f xs ys r (i + 1) s2) ∨ (q = false ∧ LpI X pins σ H f xs ys r i s2 ∧ P s2)) X.xe s' := by
  obtain ⟨⟨H1, I1, e1⟩, hl⟩ := l
  have g1 : its[i]? = some its.toArray[i] := by
    have h1' : i < its.length := by simpa using h1
    rw [List.getElem?_eq_getElem h1'] <;> simp
  have g2 : its2[i]? = some its2.toArray[i] := by
    have h2' : i < its2.length := by simpa using h2
    rw [List.getElem?_eq_getElem h2'] <;> simp
  have k1 : i < vs.length := by rw [r1.length]; simpa using h1
  have k2 : i < ws.length := by rw [r2.length]; simpa using h2
  have l1 : i < xs.length := by rw [← q1.length]; exact k1
  have l2 : i < ys.length := by rw [← q2.length]; exact k2
  obtain ⟨u, hu, ru⟩ := r1.get (List.getElem?_eq_getElem k1)
  obtain ⟨v, hv, rv⟩ := r2.get (List.getElem?_eq_getElem k2)
  rw [g1] at hu
  rw [g2] at hv
  rw [Option.some.inj hu, Option.some.inj hv]
  obtain ⟨v1, hv1, p1⟩ := q1.get (List.getElem?_eq_getElem l1)
  obtain ⟨v2, hv2, p2⟩ := q2.get (List.getElem?_eq_getElem l2)
  rw [List.getElem?_eq_getElem k1] at hv1
  rw [List.getElem?_eq_getElem k2] at hv2
  have e3 := Option.some.inj hv1
  have e4 := Option.some.inj hv2
  rw [List.drop_eq_getElem_cons l1, List.drop_eq_getElem_cons l2] at hl
  have hl0 := hl
  simp only [allE] at hl
  split at hl
  · rename_i q
    refine wpAny_mono (hf _ _ _ q A.in1 pins s' σ H1 F _ _ u v sb.in1 I1 (S.ext e1) (e3 ▸ p1) (e4 ▸ p2) ru rv) (fun z s2 w => ?_) fun _ _ x => x
    obtain ⟨rfl, H2, I2, e2⟩ := w
    exact .inl ⟨rfl, ⟨H2, I2, e1.trans e2⟩, hl⟩
  · rename_i q
    refine wpAny_mono (hf _ _ _ q A.in1 pins s' σ H1 F _ _ u v sb.in1 I1 (S.ext e1) (e3 ▸ p1) (e4 ▸ p2) ru rv) (fun z s2 w => ?_) fun _ _ x => x
    obtain ⟨rfl, H2, I2, e2⟩ := w
    have er : r = false := by cases hl; rfl
    refine .inr ⟨rfl, ⟨⟨H2, I2, e1.trans e2⟩, ?_⟩, hP s2 er ⟨H2, I2, e1.trans e2⟩⟩
    rw [List.drop_eq_getElem_cons l1, List.drop_eq_getElem_cons l2]
    exact hl0
  · cases hl
theorem lp_end {pins : List (Addr × Obj)} {σ : L2.St} {H : Hp} {f : D → D → Option Bool} {xs ys : List D} {i : Nat} {s' : Shared} (l : LpI X pins σ H f xs ys r i s') (h1 : xs.length ≤ i) (h2 : ys.length ≤ i) : r = true ∧ PostE X pins σ H s' := by
  obtain ⟨p, e⟩ := l
  rw [List.drop_of_length_le h1, List.drop_of_length_le h2] at e
  simp only [allE] at e
  cases e
  exact ⟨rfl, p⟩
theorem plainL_of {H : Hp} {F : Fz} {pins : List (Addr × Obj)} {s : Shared} {σ : L2.St} {p : Addr} {vs : List V} (I : Inv X pins σ H s) (S : Sits F H) (e : F p = some (.hard (.lst vs))) : ∃ (its : List Value) (n : Nat) (sl : Array (Option Value)), Vals vs its ∧ s.heap.get? p = some { cls := .type "list", data := .seq its.toArray n, slots := sl } := by
  obtain ⟨its, r, ⟨⟨cl, di, da, sl⟩, n, e1, hc, hd, hda⟩, _⟩ := I.list (a := p) (.inl (show Rd H p (.lst _) from S _ _ e))
  simp only at hc hd hda
  subst hc hd hda
  exact ⟨its, n, sl, r, e1⟩
theorem rcB_lst {f : D → D → Option Bool} {xs ys : List D} {k : Nat} (hf : ∀ a b r, f a b = some r → EqB X k a b r) (hl : xs.length = ys.length) (e : allE f xs ys = some r) : RcB X (k + 1) neg (.lst xs) (.lst ys) r := by
  intro A pins s σ H F x y u v sb I S ra rb rx ry
  cases ra with
  | @lst p vs ds e1 q1 =>
    cases rb with
    | @lst q ws ds' e2 q2 =>
      cases rx
      cases ry
      refine GB.rc_listB (neg := neg) (N := vs.length) (Nat.lt_of_succ_lt sb.room.units1) (LpI X pins σ H f xs ys r) (fun i s' l => ?_) (fun s' l => ?_) ⟨⟨H, I, Ext.rfl'⟩, e⟩
      · obtain ⟨⟨H1, I1, x1⟩, _⟩ := id l
        obtain ⟨its, n1, sl1, r1, h1⟩ := plainL_of I1 (S.ext x1) e1
        obtain ⟨its2, n2, sl2, r2, h2⟩ := plainL_of I1 (S.ext x1) e2
        refine ⟨its.toArray, its2.toArray, n1, n2, sl1, sl2, h1, h2, by rw [List.size_toArray, ← r1.length], by rw [List.size_toArray, ← r2.length, q2.length, q1.length, hl], fun j1 j2 => ?_⟩
        refine lp_turn sb S q1 q2 r1 r2 hf i j1 j2 s' l (fun s2 er pz => ?_)
        subst er
        exact ⟨(fun z => nomatch z), by simp, pz⟩
      · obtain ⟨er, pz⟩ := lp_end l (by rw [q1.length]; exact Nat.le_refl _) (by rw [q1.length, hl]; exact Nat.le_refl _)
        subst er
        exact ⟨by simp, pz⟩
theorem rcB_tup {f : D → D → Option Bool} {xs ys : List D} {k : Nat} (hf : ∀ a b r, f a b = some r → EqB X k a b r) (hl : xs.length = ys.length) (e : allE f xs ys = some r) : RcB X (k + 1) neg (.tup xs) (.tup ys) r := by
  intro A pins s σ H F x y u v sb I S ra rb rx ry
  cases ra with
  | @tup p vs ds e1 q1 =>
    cases rb with
    | @tup q ws ds' e2 q2 =>
      cases rx
      cases ry
      obtain ⟨its, r1, h1, z1⟩ := I.tuple (a := p) (.inl (show Rd H p (.tup _) from S _ _ e1))
      obtain ⟨its2, r2, h2, z2⟩ := I.tuple (a := q) (.inl (show Rd H q (.tup _) from S _ _ e2))
      have hsz : its.toArray.size = its2.toArray.size := by rw [List.size_toArray, List.size_toArray, ← r1.length, ← r2.length, q1.length, q2.length]; exact hl
      refine GB.rc_tupB (neg := neg) hsz (Nat.lt_of_succ_lt sb.room.units1) (LpI X pins σ H f xs ys r) h1 h2 (fun i j1 j2 s' l => ?_) (fun s' l => ?_) ⟨⟨H, I, Ext.rfl'⟩, e⟩
      · refine lp_turn sb S q1 q2 r1 r2 hf i j1 j2 s' l (fun s2 er pz => ?_)
        subst er
        exact ⟨by simp, pz⟩
      · obtain ⟨er, pz⟩ := lp_end l (by rw [List.size_toArray, ← r1.length, q1.length]; exact Nat.le_refl _) (by rw [List.size_toArray, ← r1.length, q1.length, hl]; exact Nat.le_refl _)
        subst er
        exact ⟨by simp, pz⟩
theorem rcB_len {xs ys : List D} {k : Nat} (hl : xs.length ≠ ys.length) : RcB X k neg (.lst xs) (.lst ys) false := by
  intro A pins s σ H F x y u v sb I S ra rb rx ry
  cases ra with
  | @lst p vs ds e1 q1 =>
    cases rb with
    | @lst q ws ds' e2 q2 =>
      cases rx
      cases ry
      obtain ⟨its, n1, sl1, r1, h1⟩ := plainL_of I S e1
      obtain ⟨its2, n2, sl2, r2, h2⟩ := plainL_of I S e2
      have hne : (its.toArray.size != its2.toArray.size) = true := by
        rw [List.size_toArray, List.size_toArray, ← r1.length, ← r2.length, q1.length, q2.length]
        simpa using hl
      have hu : A.units < cLine := Nat.lt_of_succ_lt sb.room.units1
      cases neg with
      | false => exact SeqAt.RcAt.lists_lengths ⟨_, h1, rfl, _, rfl⟩ ⟨_, h2, rfl, _, rfl⟩ hne hu X.prog X.w X.xe _ ⟨by simp, H, I, Ext.rfl'⟩
      | true => exact SeqAt.RcNeAt.lists_lengths ⟨_, h1, rfl, _, rfl⟩ ⟨_, h2, rfl, _, rfl⟩ hne hu X.prog X.w X.xe _ ⟨by simp, H, I, Ext.rfl'⟩
theorem hits_of {A : Around} {pins : List (Addr × Obj)} {s : Shared} {σ : L2.St} {H : Hp} {F : Fz} {kvs : List (Key × V)} {vb : List (Key × Value)} {ls : List (Key × D)} (hu : A.units + 64 < cLine) (I : Inv X pins σ H s) (S : Sits F H) (rb : KV kvs vb) (ql : RepK F kvs ls) :
    ∀ {ks : List (Key × D)} {vs : List (Key × V)} {va : List (Key × Value)} {r : Bool}, RepK F vs ks → KV vs va → allK ks ls = some r → PySem.W.KeqHits A s vb va r
  | _, _, va, r, .nil, ra, e => by
    unfold KV at ra
    cases ra
    simp only [allK] at e
    cases e
    exact .nil
  | _, _, va, r, .cons (k := k) (v := v) (d := d) h t, ra, e => by
    unfold KV at ra
    cases ra with
    | @cons p q ps qs hh tt =>
      obtain ⟨h1, h2⟩ := hh
      obtain ⟨k', u⟩ := q
      have hk : k = k' := h1
      subst hk
      have rr : RelO (valV kvs k) (valueAt vb k) := rb.val k
      obtain ⟨i1, i2⟩ := ql.val (k := k)
      simp only [allK] at e
      split at e
      · rename_i hv
        cases e
        rw [i2 hv] at rr
        have : valueAt vb k = none := by
          cases z : valueAt vb k with
          | none => rfl
          | some w => rw [z] at rr; exact rr.elim
        exact .miss this
      · rename_i y hv
        obtain ⟨w, hw, rw'⟩ := i1 y hv
        rw [hw] at rr
        obtain ⟨z, hz, rz⟩ := rr.some_of
        obtain ⟨e0, he0, e⟩ := Option.bind_eq_some_iff.mp e
        obtain ⟨r0, hr0, rfl⟩ := Option.map_eq_some_iff.mp e
        exact .hit hz (eqAt_pl he0 hu I S h rw' h2 rz) (hits_of hu I S rb ql t tt hr0)
theorem rcB_dic {ks ls : List (Key × D)} {k : Nat} (e : ks.length = ls.length → allK ks ls = some r) (hr : ks.length ≠ ls.length → r = false) : RcB X (k + 1) neg (.dic ks) (.dic ls) r := by
  intro A pins s σ H F x y u v sb I S ra rb rx ry
  cases ra with
  | @dic p vs ds e1 q1 =>
    cases rb with
    | @dic q ws ds' e2 q2 =>
      cases rx
      cases ry
      obtain ⟨_, ya, va, r1, d1⟩ := dk_rd (P := X.prog) (w := X.w) I.hok (show Rd H p (.dK _) from S _ _ e1)
      obtain ⟨_, yb, vb, r2, d2⟩ := dk_rd (P := X.prog) (w := X.w) I.hok (show Rd H q (.dK _) from S _ _ e2)
      have hla : va.length = ks.length := by rw [← r1.length, q1.length]
      have hlb : vb.length = ls.length := by rw [← r2.length, q2.length]
      have hu : A.units < cLine := Nat.lt_of_succ_lt sb.room.units1
      have hh : va.length = vb.length → PySem.W.KeqHits A.in1 s vb va r := fun z => hits_of sb.in1.room.units I S r2 q2 q1 r1 (e (by rw [← hla, ← hlb]; exact z))
      have eq : (va.length == vb.length && r) = r := by
        by_cases z : ks.length = ls.length
        · simp [hla, hlb, z]
        · rw [hr z]; simp
      cases neg with
      | false => exact PySem.W.keq_eq (knd := mixKind X.prog X.w) (r := r) ya yb d1 d2 hu hh ⟨by rw [eq]; simp, H, I, Ext.rfl'⟩
      | true => exact PySem.W.keq_ne (knd := mixKind X.prog X.w) (r := r) ya yb d1 d2 hu hh ⟨by rw [eq]; simp, H, I, Ext.rfl'⟩
theorem eqA_ok (ok : EqOk X m fe) : ∀ (n : Nat) (a b : D) (r : Bool), eqA fe n a b = some r → (∀ neg, RcB X (n + m) neg a b r) ∧ EqB X (n + m) a b r
  | 0, _, _, _, e => by simp [eqA] at e
  | n + 1, a, b, r, e => by
    have rf : ∀ F v, Rep F v a → Rep F v b → r = true := fun F v h k => eqA_refl (n + 1) v a b r h k e
    have ih := eqA_ok ok n
    have hn : n + 1 + m = n + m + 1 := by omega
    rw [hn]
    have own : ∀ {C : Addr} {fs : List (Str × D)}, a = .ins C fs → ownEq fe C a b = some r → ((∃ C' gs G, b = .ins C' gs ∧ fe C' = some G) ∨ b = .non ∨ (∃ z, b = .bl z) ∨ (∃ z, b = .int z) ∨ (∃ z, b = .str z) ∨ (∃ z, b = .lst z) ∨ (∃ z, b = .tup z) ∨ (∃ z, b = .dic z)) → (∀ neg, RcB X (n + m + 1) neg a b r) ∧ EqB X (n + m + 1) a b r := fun {C fs} ha e hk => by
      subst ha
      have h1 : ∀ neg, RcB X (n + m + 1) neg (.ins C fs) b r := fun neg A pins s σ H F x y u v sb => rcB_own (neg := neg) ok e hk A pins s σ H F x y u v (sb.mono (by omega))
      exact ⟨h1, eqB_of (h1 false) rfl rf⟩
    unfold eqA at e
    split at e
    · rename_i q
      cases e
      exact ⟨fun neg => rcB_plain q, eqB_plain q⟩
    · split at e
      · split at e
        · rename_i hl
          have h1 : ∀ neg, RcB X (n + m + 1) neg _ _ r := fun neg => rcB_lst (neg := neg) (fun a b r z => (ih a b r z).2) hl e
          exact ⟨h1, eqB_of (h1 false) rfl rf⟩
        · rename_i hl
          cases e
          have h1 : ∀ neg, RcB X (n + m + 1) neg _ _ false := fun neg => rcB_len (neg := neg) hl
          exact ⟨h1, eqB_of (h1 false) rfl rf⟩
      · split at e
        · rename_i hl
          have h1 : ∀ neg, RcB X (n + m + 1) neg _ _ r := fun neg => rcB_tup (neg := neg) (fun a b r z => (ih a b r z).2) hl e
          exact ⟨h1, eqB_of (h1 false) rfl rf⟩
        · cases e
      · split at e
        · rename_i hl
          obtain ⟨r', hr', e⟩ := Option.bind_eq_some_iff.mp e
          have er : r' = r := by split at e <;> cases e; rfl
          subst er
          have h1 : ∀ neg, RcB X (n + m + 1) neg _ _ r' := fun neg => rcB_dic (neg := neg) (fun _ => hr') (fun z => absurd hl z)
          exact ⟨h1, eqB_of (h1 false) rfl rf⟩
        · rename_i hl
          cases e
          have h1 : ∀ neg, RcB X (n + m + 1) neg _ _ false := fun neg => rcB_dic (neg := neg) (fun z => absurd z hl) (fun _ => rfl)
          exact ⟨h1, eqB_of (h1 false) rfl rf⟩
      · split at e
        · rename_i hs
          obtain ⟨G, hG⟩ := Option.isSome_iff_exists.mp hs
          exact own rfl e (.inl ⟨_, _, G, rfl, hG⟩)
        · cases e
      · exact own rfl e (.inr (.inl rfl))
      · exact own rfl e (.inr (.inr (.inl ⟨_, rfl⟩)))
      · exact own rfl e (.inr (.inr (.inr (.inl ⟨_, rfl⟩))))
      · exact own rfl e (.inr (.inr (.inr (.inr (.inl ⟨_, rfl⟩)))))
      · exact own rfl e (.inr (.inr (.inr (.inr (.inr (.inl ⟨_, rfl⟩))))))
      · exact own rfl e (.inr (.inr (.inr (.inr (.inr (.inr (.inl ⟨_, rfl⟩)))))))
      · exact own rfl e (.inr (.inr (.inr (.inr (.inr (.inr (.inr ⟨_, rfl⟩)))))))
      · cases e
end
end DL
/-! FL11: == and != of data with instances in it, as operators. -/
namespace DL
open PySem L2
section
variable {X : Cx} {m : Nat} {fe : EqF} {neg : Bool}
theorem SR.ext {E : En} {F : Fz} {H H' : Hp} {σ : St} {ρ : DEnv} (S : SR E F H σ ρ) (x : Ext H H') : SR E F H' σ ρ := by
  refine ⟨S.sits.ext x, S.len, fun i dv e => ?_, S.sep, S.pin, S.go.trans ⟨.refl, fun a o h _ _ => x a o h, fun _ _ h => .inl h, fun _ h => .inl h, fun a o h => ⟨o, x a o h⟩⟩⟩
  obtain ⟨v, hv, d⟩ := S.at_ i dv e
  refine ⟨v, hv, ?_⟩
  have heap : ∀ {p : Addr} {d : D}, Own F H p d → Own F H' p d := fun {p d} o => by
    obtain ⟨u, hu⟩ := o.there
    exact o.heap ((x p u hu).trans hu.symm)
  cases dv with
  | fz d0 => exact d
  | ow d0 => obtain ⟨p, h1, h2, h3⟩ := d; exact ⟨p, h1, h2, heap h3⟩
  | bw d0 => obtain ⟨p, h1, h2, h3⟩ := d; exact ⟨p, h1, h2, heap h3⟩
/-- all of the heap as it stands now -/
def stand (F : Fz) (H : Hp) : Fz := fun a => match F a with
  | some o => some o
  | none => (H a).map FO.hard
theorem stand_le {F : Fz} {H : Hp} : Le F (stand F H) := fun a o h => by unfold stand; rw [h]
theorem stand_sits {F : Fz} {H : Hp} (S : Sits F H) : Sits (stand F H) H := fun a fo h => by
  unfold stand at h
  split at h
  · rename_i o q
    cases h
    have z := S a _ q
    cases fo with
    | soft d => obtain ⟨o, _, w⟩ := z; exact w.elim
    | hard o => exact z
  · obtain ⟨o, ho, rfl⟩ := Option.map_eq_some_iff.mp h
    exact Rx.of ho
theorem stand_rep {F : Fz} {H : Hp} {v : V} {d : D} (h : View F H v d) : Rep (stand F H) v d := by
  rcases h with h | ⟨p, rfl, hn, ow⟩
  · exact h.mono stand_le
  · have at_ : ∀ {o : HO}, H p = some o → stand F H p = some (.hard o) := fun {o} e => by unfold stand; rw [hn, e]; rfl
    match d, ow with
    | .lst _, ⟨vs, e, r⟩ => exact .lst (at_ e) (r.mono stand_le)
    | .dic _, ⟨vs, e, r⟩ => exact .dic (at_ e) (r.mono stand_le)
    | .ins _ _, ⟨dx, vs, e, r⟩ => exact .ins (at_ e) (r.mono stand_le)
def rEqX (fe : EqF) (neg : Bool) : R2 := fun x y H Q => ∃ F a b r, Sits F H ∧ Rep F x a ∧ Rep F y b ∧ eqA fe 6 a b = some r ∧ ∀ H', Ext H H' → Q (.bl (r ^^ neg)) H'
def gEqX (fe : EqF) (neg : Bool) : D → D → D → Prop := fun a b d => ∃ r, eqA fe 6 a b = some r ∧ d = .bl (r ^^ neg)
theorem op_eqX (ok : EqOk X m fe) (hr : RoomG (6 + m) X.A) : OpR X (compareOp (GB.opB neg)) (rEqX fe neg) := by
  intro pins s σ H x y v u Q I rx ry hq
  obtain ⟨F, a, b, r, S, ra, rb, e, q⟩ := hq
  have main : wpAny (model X.prog X.w) X.A (richCompare (GB.opB neg) v u) (EP X pins σ Q) X.xe s := by
    refine wpAny_mono ((eqA_ok ok 6 a b r e).1 neg X.A pins s σ H F x y _ _ ⟨hr, rfl⟩ I S ra rb rx ry) (fun z s' w => ?_) fun _ _ x => x
    obtain ⟨rfl, H', I', x'⟩ := w
    exact ⟨.bl (r ^^ neg), H', I', rfl, q H' x'⟩
  cases neg with
  | false => exact main
  | true => exact main
theorem od_eqX : OpD (rEqX fe neg) (gEqX fe neg) := fun E F H σ ρ x y d1 d2 d Q S v1 v2 ⟨r, e, hd⟩ k => by
  subst hd
  exact ⟨stand F H, d1, d2, r, stand_sits S.sits, stand_rep v1, stand_rep v2, e, fun H' x => k _ H' F (S.ext x) .refl (.bl _)⟩
theorem c_eqX (ok : EqOk X m fe) (hr : RoomG (6 + m) X.A) : CmF X .Eq (eqX fe) := CmF.or (g := eqS1) (g' := fun a b => (eqA fe 6 a b).map .bl)
  (cF op_eq od_eqS fun a b d h => by
    unfold eqS1 at h
    split at h
    · cases h; exact ⟨_, _, rfl, rfl, rfl⟩
    · cases h)
  (cF (op_eqX (neg := false) ok hr) od_eqX fun a b d h => by
    obtain ⟨r, h1, rfl⟩ := Option.map_eq_some_iff.mp h
    exact ⟨r, h1, by simp⟩)
  fun a b d h => by
    unfold eqX at h
    split at h
    · cases h; exact .inl rfl
    · exact .inr h
theorem c_neX (ok : EqOk X m fe) (hr : RoomG (6 + m) X.A) : CmF X .NotEq (neX fe) := CmF.or (g := neS1) (g' := fun a b => (eqA fe 6 a b).map fun r => .bl (!r))
  (cF op_ne od_neS fun a b d h => by
    unfold neS1 at h
    split at h
    · cases h; exact ⟨_, _, rfl, rfl, rfl⟩
    · cases h)
  (cF (op_eqX (neg := true) ok hr) od_eqX fun a b d h => by
    obtain ⟨r, h1, rfl⟩ := Option.map_eq_some_iff.mp h
    exact ⟨r, h1, by simp⟩)
  fun a b d h => by
    unfold neX at h
    split at h
    · cases h; exact .inl rfl
    · exact .inr h
end
end DL
/-! FL12: what the printed texts need for ==, try. -/
namespace DL
open PySem L2 PySem.Spec PyProof.Rows
section
variable {X : Cx} {C f : Addr} {F : FF} {m : Nat} {fd : FuncData} {ps : List Str}
/-- a class's own == -/
structure EqT (K : PySem.W.Frag) (C f : Addr) (fd : FuncData) (ps : List Str) : Prop where
  fi : PySem.W.findIn K (.ref C) "__eq__" = some (some (.ref f))
  fn : PySem.W.isFn K (.ref f) = true
  b : Binds K fd ps []
  ne : PySem.W.findIn K (.ref C) "__ne__" = some (some (.builtin "object.__ne__"))
  ob : PySem.W.subIn K (.ref C) (.type "object") = some true
theorem no_kind {K : PySem.W.Frag} {C : Addr} : ∀ T ∈ kinds, PySem.W.subIn K (.type T) (.ref C) = some false := by
  intro T hT
  simp only [kinds, List.mem_cons, List.not_mem_nil, or_false] at hT
  rcases hT with rfl | rfl | rfl | rfl | rfl | rfl | rfl <;> rfl
theorem eqC_mk (T : EqT X.K C f fd ps) (G : FnG X.prog X.w X.K X.mg X.base CX0 m f fd ps (liftSp (fnN F))) : EqC X m C F := ⟨⟨f, fd, ps, T.fi, T.fn, T.b, G⟩, T.ne, T.ob, no_kind⟩
theorem eqOk_1 (h : EqC X m C F) : EqOk X m (eqFc C F noEq) := by
  have e : ∀ C' G, eqFc C F noEq C' = some G → C' = C ∧ G = F := fun C' G q => by
    unfold eqFc at q
    split at q
    · rename_i z; cases q; exact ⟨z, rfl⟩
    · cases q
  refine ⟨fun C' G q => ?_, fun C' C'' G G' q q' => ?_⟩
  · obtain ⟨rfl, rfl⟩ := e _ _ q; exact h
  · obtain ⟨rfl, _⟩ := e _ _ q
    obtain ⟨rfl, _⟩ := e _ _ q'
    unfold PySem.W.notFirst
    simp
theorem EqC.mono {k : Nat} (h : EqC X m C F) (l : m ≤ k) : EqC X k C F := by
  obtain ⟨f, fd, ps, a, b, c, d⟩ := h.ex
  exact ⟨⟨f, fd, ps, a, b, c, d.mono l⟩, h.ne, h.ob, h.no⟩
end
theorem noFN_ok {P : Program} {w : World} {K : PySem.W.Frag} {mg : Str → Option Value} {base : Heap} {CX : CXT} {k : Nat} {f : Addr} {fd : FuncData} {ps : List Str} : FnG P w K mg base CX k f fd ps (liftSp (fnN noF)) :=
  ⟨fun vs H Q E ⟨_, _, _, _, _, _, h, _⟩ => h.elim, fun A outer s H args us vs Q E hr e0 hb r ⟨_, _, _, _, _, _, h, _⟩ => h.elim⟩
/-! ### except clauses -/
/-- a class whose exceptions are caught -/
structure ExA (K : PySem.W.Frag) (C : Addr) : Prop where
  xf : XfC K C
  nv : PySem.W.findIn K (.ref C) "value" = some none
  ec : ExcC K C
/-- a class in an except clause -/
structure ExX (K : PySem.W.Frag) (X : Addr) (yes no : List Addr) : Prop where
  be : PySem.W.subIn K (.ref X) (.type "BaseException") = some true
  hd : PySem.W.hasDictIn K X = true
  ty : PySem.W.typeIn K (.ref X) = some (.type "type")
  ys : ∀ C ∈ yes, PySem.W.subIn K (.ref C) (.ref X) = some true
  ns : ∀ C ∈ no, PySem.W.subIn K (.ref C) (.ref X) = some false ∧ C ≠ X
section
variable {K : PySem.W.Frag} {C Y : Addr} {yes no : List Addr} {b : Bool}
theorem inCls_yes (h : inCls yes no C = some true) : C ∈ yes := by
  unfold inCls at h
  split at h
  · assumption
  · split at h <;> cases h
theorem ExX.sub (T : ExX K Y yes no) (h : inCls yes no C = some b) : PySem.W.subIn K (.ref C) (.ref Y) = some b ∧ (b = false → C ≠ Y) := by
  unfold inCls at h
  split at h
  · rename_i q; cases h; exact ⟨T.ys C q, fun z => nomatch z⟩
  · split at h
    · rename_i q; cases h; exact ⟨(T.ns C q).1, fun _ => (T.ns C q).2⟩
    · cases h
theorem ExX.exm (T : ExX K Y yes no) (h : inCls yes no C = some b) : PySem.W.exmOne K (.ref C) (.ref Y) = some b := PySem.W.exm_ref T.be T.hd T.ty (T.sub h).1
theorem ExX.kit (T : ExX K Y yes no) (h : inCls yes no C = some b) : PySem.W.kitOne K (.ref C) (.ref Y) = some b := by
  have e1 : ((PySem.W.clsIn K Y).isSome && PySem.W.typeIn K (.ref Y) == some (.type "type")) = true := by rw [cls_some T.hd, T.ty]; rfl
  obtain ⟨h1, h2⟩ := T.sub h
  show (if (Value.ref C == Value.ref Y) = true then some true else if _ = true then PySem.W.subIn K (.ref C) (.ref Y) else none) = some b
  cases b with
  | true =>
    split
    · rfl
    · first | exact h1 | (rw [if_pos e1]; exact h1)
  | false =>
    rw [if_neg (by simp [h2 rfl]), if_pos e1]
    exact h1
theorem inCls_some (h : C ∈ yes ++ no) : ∃ b, inCls yes no C = some b := by
  unfold inCls
  split
  · exact ⟨_, rfl⟩
  · rename_i q
    rcases List.mem_append.mp h with z | z
    · exact absurd z q
    · rw [if_pos z]; exact ⟨_, rfl⟩
end
section
variable {X : Cx} {E : En} {i j : Nat} {a dx C Y : Addr} {pos p : Pos} {n : Str} {oe : Obj} {pn : List (Addr × Obj)} {c : Expr} {yes no : List Addr}
theorem ce_isX (T : ExA X.K C) (hz : Zc (.ref C) (some dx) oe) (hf : ∃ vs, oe.data = .fields vs) (he : PE (X.suite a ((a, oe) :: pn)) (.Name n p) (tVar i)) (hc : PE (X.suite a ((a, oe) :: pn)) c (tC (.ref Y))) (TY : ExX X.K Y yes no) (hm' : C ∈ yes ++ no)
    (hg : Gl (X.suite a ((a, oe) :: pn)) "isinstance") (hm : X.mg "isinstance" = none) {p1 : Pos} (s1 : starEach [.Name n p, c] X.env = (false, eval (.Name n p) X.env) :: starEach [c] X.env := by rfl) (s2 : starEach [c] X.env = (false, eval c X.env) :: starEach [] X.env := by rfl)
    (hpl : (backTo pos (starEach [c] X.env)).any (·.1) = false := by rfl) : CE (X.suite a ((a, oe) :: pn)) E i a dx (.Call (.Name "isinstance" p1) [.Name n p, c] [] pos) (fun _ => blOf (inCls yes no C)) := by
  obtain ⟨b, hb⟩ := inCls_some hm'
  rw [hb]
  exact ce_isi T.ec hz hf he hc (fun u h => h) (TY.kit hb) hg hm s1 s2 hpl
end
end DL
/-! FL13: rows of items some of which are fresh lists: a, b = (x, []). -/
namespace DL
open PySem L2
section
variable {X : Cx} {E : En} {EX : DX}
theorem Th.anew {F : Fz} {H : Hp} {σ : L2.St} {ρ : DEnv} (T : Th X E EX) (S : SR E F H σ ρ) : Th X (DL.anew F H σ ρ) EX := by
  obtain ⟨W, tk, lk⟩ := T.w
  exact ⟨⟨W, tk, ⟨fun C dx d v ρ' σ' F' H' hx S' hF r => lk.out C dx d v ρ' σ' F' H' hx (S.back S') hF r⟩⟩, T.po⟩
/-- the fresh ones' places -/
def pend : List V → List Mx → List Addr
  | .ref p :: vs, .inr _ :: ms => p :: pend vs ms
  | _ :: vs, _ :: ms => pend vs ms
  | _, _ => []
inductive MDen (E : En) (F : Fz) (H : Hp) (σ : L2.St) (ρ : DEnv) : List V → List Mx → Prop
  | nil : MDen E F H σ ρ [] []
  | val {v : V} {r : Rf} {vs : List V} {ms : List Mx} : VDen σ F v r → MDen E F H σ ρ vs ms → MDen E F H σ ρ (v :: vs) (.inl r :: ms)
  | new {p : Addr} {d : D} {vs : List V} {ms : List Mx} : NewAt E F H σ ρ p d → p ∉ pend vs ms → MDen E F H σ ρ vs ms → MDen E F H σ ρ (.ref p :: vs) (.inr d :: ms)
def tLM (E : En) (m : DEnv → (List Mx → DEnv → Prop) → Prop) : TA := fun σ H Q => ∃ F ρ P, SR E F H σ ρ ∧ m ρ P ∧ ∀ rs ρ' vs H' F', P rs ρ' → SR E F' H' σ ρ' → Le F F' → MDen E F' H' σ ρ' vs rs → Q vs H'
abbrev XM (X : Cx) (E : En) (EX : DX) (es : List Expr) (f : FM) : Prop := PA X es (tLM E (lif EX f))
theorem pend_new {F : Fz} {H : Hp} {σ : L2.St} {ρ : DEnv} {vs : List V} {ms : List Mx} (h : MDen E F H σ ρ vs ms) : ∀ p ∈ pend vs ms, E.H p = none := by
  induction h with
  | nil => intro p hp; simp [pend] at hp
  | @val v r vs ms h1 h2 ih => intro p hp; cases v <;> exact ih p (by simpa [pend] using hp)
  | @new p d vs ms n np h ih =>
    intro q hq
    rcases List.mem_cons.mp (show q ∈ p :: pend vs ms from hq) with z | z
    · rw [z]; exact n.en
    · exact ih q z
/-- from the state entered anew to the one ahead -/
theorem MDen.back {F F0 : Fz} {H H0 : Hp} {σ : L2.St} {ρ ρ0 : DEnv} {vs : List V} {ms : List Mx} (S0 : SR E F0 H0 σ ρ0) (h : MDen (anew F0 H0 σ ρ0) F H σ ρ vs ms) : MDen E F H σ ρ vs ms := by
  induction h with
  | nil => exact .nil
  | val h1 h2 ih => exact .val h1 ih
  | new n np h ih => exact .new ⟨n.fz, n.own, n.no, S0.go.free n.en⟩ np ih
theorem xm_nil : XM X E EX [] fmNil := PA.to pa_nil fun σ H Q ⟨F, ρ, P, S, hm, k⟩ => k [] ρ [] H F hm S .refl .nil
theorem pm_tail {es : List Expr} {fr : FM} (ks : ∀ E' EX', Th X E' EX' → XM X E' EX' es fr) : PA X es (fun σ H Q => ∃ E' EX', Th X E' EX' ∧ tLM E' (lif EX' fr) σ H Q) := ⟨fun pos pins s σ H Q I ⟨E', EX', th, z⟩ => (ks E' EX' th).run pos pins s σ H Q I z⟩
theorem xm_E {e : Expr} {es : List Expr} {f : FE} {fr : FM} (T : Th X E EX) (k : XE X E EX e f) (ks : ∀ E' EX', Th X E' EX' → XM X E' EX' es fr) (hs : starEach (e :: es) X.env = (false, eval e X.env) :: starEach es X.env := by rfl) : XM X E EX (e :: es) (fmE f fr) := PA.to (pa_cons k (pm_tail ks) hs) fun σ H Q ⟨F, ρ, P, S, hm, kk⟩ => by
  refine ⟨F, ρ, fun r ρ1 => (fr ρ1).sem EX fun rs ρ2 => P (.inl r :: rs) ρ2, S, sem_mono (sem_bind.mp hm) (fun r ρ1 h => sem_bind.mp h), fun r ρ1 v H1 F1 hP S1 l1 d1 => ?_⟩
  exact ⟨anew F1 H1 σ ρ1, EX, T.anew S1, F1, ρ1, fun rs ρ2 => P (.inl r :: rs) ρ2, S1.again, hP, fun rs ρ2 vs H2 F2 hP2 S2 l2 md => kk _ ρ2 (v :: vs) H2 F2 hP2 (S1.back S2) (l1.trans l2) (.val (d1.mono l2) (md.back S1))⟩
theorem xm_O {e : Expr} {es : List Expr} {f : FW} {fr : FM} (T : Th X E EX) (k : XO X E EX e f) (ks : ∀ E' EX', Th X E' EX' → XM X E' EX' es fr) (hs : starEach (e :: es) X.env = (false, eval e X.env) :: starEach es X.env := by rfl) : XM X E EX (e :: es) (fmO f fr) := PA.to (pa_cons k (pm_tail ks) hs) fun σ H Q ⟨F, ρ, P, S, hm, kk⟩ => by
  refine ⟨F, ρ, fun d ρ1 => (fr ρ1).sem EX fun rs ρ2 => P (.inr d :: rs) ρ2, S, sem_mono (sem_bind.mp hm) (fun r ρ1 h => sem_bind.mp h), fun d ρ1 p H1 F1 hP S1 l1 n1 => ?_⟩
  refine ⟨anew F1 H1 σ ρ1, EX, T.anew S1, F1, ρ1, fun rs ρ2 => P (.inr d :: rs) ρ2, S1.again, hP, fun rs ρ2 vs H2 F2 hP2 S2 l2 md => kk _ ρ2 (.ref p :: vs) H2 F2 hP2 (S1.back S2) (l1.trans l2) (.new ?_ (fun z => ?_) (md.back S1))⟩
  · obtain ⟨o, ho⟩ := n1.own.there
    have ns : ¬ Soft F1 p := fun ⟨d, z⟩ => by rw [n1.fz] at z; cases z
    have hk : H2 p = some o := S2.go.keep p o ho n1.no ns
    refine ⟨?_, (n1.own.mono l2).heap (hk.trans ho.symm), fun z => ?_, n1.en⟩
    · cases q : F2 p with
      | none => rfl
      | some fo =>
        rcases S2.go.fz p fo q with z | z | z
        · rw [show (anew F1 H1 σ ρ1).F = F1 from rfl, n1.fz] at z; cases z
        · rw [show (anew F1 H1 σ ρ1).H = H1 from rfl, ho] at z; cases z
        · exact absurd z n1.no
    · rcases S2.go.own p z with z | z
      · exact n1.no z
      · rw [show (anew F1 H1 σ ρ1).H = H1 from rfl, ho] at z; cases z
  · obtain ⟨o, ho⟩ := n1.own.there
    have := pend_new md p z
    rw [show (anew F1 H1 σ ρ1).H = H1 from rfl, ho] at this
    cases this
theorem NewAt.go {F F' : Fz} {H H' : Hp} {σ : L2.St} {ρ ρ' : DEnv} {p : Addr} {d : D} (n : NewAt E F H σ ρ p d) (S : SR (DL.anew F H σ ρ) F' H' σ ρ') (l : Le F F') : NewAt E F' H' σ ρ' p d := by
  obtain ⟨o, ho⟩ := n.own.there
  have ns : ¬ Soft F p := fun ⟨d, z⟩ => by rw [n.fz] at z; cases z
  have hk : H' p = some o := S.go.keep p o ho n.no ns
  refine ⟨?_, (n.own.mono l).heap (hk.trans ho.symm), fun z => ?_, n.en⟩
  · cases q : F' p with
    | none => rfl
    | some fo =>
      rcases S.go.fz p fo q with z | z | z
      · rw [show (DL.anew F H σ ρ).F = F from rfl, n.fz] at z; cases z
      · rw [show (DL.anew F H σ ρ).H = H from rfl, ho] at z; cases z
      · exact absurd z n.no
  · rcases S.go.own p z with z | z
    · exact n.no z
    · rw [show (DL.anew F H σ ρ).H = H from rfl, ho] at z; cases z
theorem MDen.go {F F' : Fz} {H H' : Hp} {σ : L2.St} {ρ ρ' : DEnv} {vs : List V} {ms : List Mx} (h : MDen E F H σ ρ vs ms) (S : SR (DL.anew F H σ ρ) F' H' σ ρ') (l : Le F F') : MDen E F' H' σ ρ' vs ms := by
  induction h with
  | nil => exact .nil
  | val h1 h2 ih => exact .val (h1.mono l) ih
  | new n np h ih => exact .new (n.go S l) np ih
def pendV : List V → List DV → List Addr
  | .ref p :: vs, .ow _ :: ms => p :: pendV vs ms
  | _ :: vs, _ :: ms => pendV vs ms
  | _, _ => []
inductive PDen (E : En) (F : Fz) (H : Hp) (σ : L2.St) (ρ : DEnv) : List V → List DV → Prop
  | nil : PDen E F H σ ρ [] []
  | val {v : V} {d : D} {vs : List V} {ms : List DV} : Rep F v d → PDen E F H σ ρ vs ms → PDen E F H σ ρ (v :: vs) (.fz d :: ms)
  | new {p : Addr} {d : D} {vs : List V} {ms : List DV} : NewAt E F H σ ρ p d → p ∉ pendV vs ms → PDen E F H σ ρ vs ms → PDen E F H σ ρ (.ref p :: vs) (.ow d :: ms)
theorem SR.escM {H : Hp} {σ : L2.St} : ∀ {ms : List Mx} {vs : List V} {ρ ρ' : DEnv} {dvs : List DV} {F : Fz}, SR E F H σ ρ → MDen E F H σ ρ vs ms → mescs ρ ms = some (dvs, ρ') → ∃ F', Le F F' ∧ SR (DL.anew F H σ ρ) F' H σ ρ' ∧ PDen E F' H σ ρ' vs dvs ∧ pendV vs dvs = pend vs ms
  | [], vs, ρ, ρ', dvs, F, S, h, e => by
    cases h
    simp only [mescs] at e
    cases e
    exact ⟨F, .refl, S.again, .nil, rfl⟩
  | .inl r :: ms, _, ρ, ρ', dvs, F, S, .val (v := v) (vs := vs) h1 h2, e => by
    simp only [mescs] at e
    obtain ⟨⟨d, ρ1⟩, e1, e⟩ := Option.bind_eq_some_iff.mp e
    obtain ⟨⟨dvs', ρ2⟩, e2, e⟩ := Option.map_eq_some_iff.mp e
    cases e
    obtain ⟨F1, l1, S1, r1⟩ := S.again.esc h1 e1
    obtain ⟨F2, l2, S2, p2, q2⟩ := (S.back S1).escM (h2.go S1 l1) e2
    refine ⟨F2, l1.trans l2, S1.back S2, .val (r1.mono l2) p2, ?_⟩
    cases v <;> simpa [pend, pendV] using q2
  | .inr d :: ms, _, ρ, ρ', dvs, F, S, .new (p := p) (vs := vs) n np h2, e => by
    simp only [mescs] at e
    obtain ⟨⟨dvs', ρ2⟩, e2, e⟩ := Option.map_eq_some_iff.mp e
    cases e
    obtain ⟨F2, l2, S2, p2, q2⟩ := S.escM h2 e2
    exact ⟨F2, l2, S2, .new (n.go S2 l2) (by rw [q2]; exact np) p2, by simp [pend, pendV, q2]⟩
/-- names, one after the other -/
def gNames : List Nat → TGs
  | [] => gNil
  | i :: is => gCons (gName i) (gNames is)
theorem PDen.move {F : Fz} {H : Hp} {σ σ' : L2.St} {ρ ρ' : DEnv} {vs : List V} {ms : List DV} (h : PDen E F H σ ρ vs ms) (no : ∀ p ∈ pendV vs ms, Owns σ' ρ' p → Owns σ ρ p) : PDen E F H σ' ρ' vs ms := by
  induction h with
  | nil => exact .nil
  | @val v d vs ms h1 h2 ih => exact .val h1 (ih fun p hp => no p (by cases v <;> simpa [pendV] using hp))
  | @new p d vs ms n np h ih => exact .new ⟨n.fz, n.own, fun z => n.no (no p (by simp [pendV]) z), n.en⟩ np (ih fun q hq => no q (by simp [pendV, hq]))
theorem owns_set {σ : L2.St} {ρ : DEnv} {i : Nat} {v : V} {dv : DV} {p : Addr} (h : Owns (σ.set i (some v)) (ρ.set i (some dv)) p) (hv : dv.owned = true → v ≠ .ref p) : Owns σ ρ p := by
  obtain ⟨j, h1, dv', h2, h3⟩ := h
  by_cases e : j = i
  · subst e
    by_cases l1 : j < σ.length
    · by_cases l2 : j < ρ.length
      · rw [List.getElem?_set_self l1] at h1
        rw [List.getElem?_set_self l2] at h2
        cases h1
        cases h2
        exact absurd rfl (hv h3)
      · rw [List.getElem?_eq_none (by simpa using l2)] at h2; cases h2
    · rw [List.getElem?_eq_none (by simpa using l1)] at h1; cases h1
  · rw [List.getElem?_set_ne (Ne.symm e)] at h1 h2
    exact ⟨j, h1, dv', h2, h3⟩
theorem sets_ok {H : Hp} {F : Fz} {Q : L2.St → Hp → Prop} : ∀ {is : List Nat} {dvs : List DV} {vs : List V} {σ : L2.St} {ρ : DEnv}, SR E F H σ ρ → PDen E F H σ ρ vs dvs → is.length = dvs.length → (∀ σ', SR E F H σ' (setsM is dvs ρ) → Q σ' H) → gNames is vs σ H Q
  | [], dvs, vs, σ, ρ, S, h, hl, k => by
    cases h with
    | nil => exact ⟨rfl, k σ S⟩
    | val => simp at hl
    | new => simp at hl
  | i :: is, _, _, σ, ρ, S, .nil, hl, k => by simp at hl
  | i :: is, _, _, σ, ρ, S, .val (v := v) (d := d) (vs := vs) (ms := ms) r h, hl, k => by
    refine ⟨v, vs, rfl, ?_⟩
    exact sets_ok (is := is) (S.fzSet i r) (h.move fun p _ z => owns_set z fun q => by cases q) (by simpa using hl) k
  | i :: is, _, _, σ, ρ, S, .new (p := p) (d := d) (vs := vs) (ms := ms) n np h, hl, k => by
    refine ⟨.ref p, vs, rfl, ?_⟩
    exact sets_ok (is := is) (S.owSet i n) (h.move fun q hq z => owns_set z fun _ e => by cases e; exact np hq) (by simpa using hl) k
theorem PDen.len {F : Fz} {H : Hp} {σ : L2.St} {ρ : DEnv} {vs : List V} {ms : List DV} (h : PDen E F H σ ρ vs ms) : vs.length = ms.length := by
  induction h with
  | nil => rfl
  | val _ _ ih => simp [ih]
  | new _ _ _ ih => simp [ih]
theorem PDen.ext {F : Fz} {H H' : Hp} {σ : L2.St} {ρ : DEnv} {vs : List V} {ms : List DV} (h : PDen E F H σ ρ vs ms) (x : Ext H H') : PDen E F H' σ ρ vs ms := by
  induction h with
  | nil => exact .nil
  | val r _ ih => exact .val r ih
  | new n np _ ih =>
    obtain ⟨o, ho⟩ := n.own.there
    exact .new ⟨n.fz, n.own.heap ((x _ o ho).trans ho.symm), n.no, n.en⟩ np ih
/-- a, b = (x, []) -/
theorem sparo {es tgts : List Expr} {f : FM} {is : List Nat} {n : Nat} {k : Nat} {x1} {tpos epos pos : Pos} (hc : X.calm = true) (he : XM X E EX es f) (hg : PGs X tgts (gNames is)) (hz : is.length ≤ 1000) (hn0 : is.length = n) (hn : (assignEach tgts X.env).length = n := by rfl) (hst : (assignEach tgts X.env).findIdx? (·.1) = none := by rfl)
    (hs : swapsWithSole [.Tuple tgts k tpos] (.Tuple es x1 epos) pos.line X.env = pure false := by rfl) (hw : swappedStores [.Tuple tgts k tpos] (.Tuple es x1 epos) X.env = pure none := by rfl) (h1 : (assignEach [.Tuple tgts k tpos] X.env).map (·.2) = [assign (.Tuple tgts k tpos) X.env] := by rfl) :
    XS X E EX (.Assign [.Tuple tgts k tpos] (.Tuple es x1 epos) pos) (fParO is f) := PS.to (ps_asg (pe_tup he) (pg_tup hc hg hn hst) hs hw h1) fun Q σ H ⟨F, ρ, P, S, hm, ft⟩ => by
  refine ⟨F, ρ, fun ms ρ1 => (oz (mescs ρ1 ms) fun p => if p.1.length = is.length then Z.nx (setsM is p.1 p.2) else .no).sem EX P, S, sem_z.mp hm, fun ms ρ1 vs H1 F1 hP S1 l1 md => ?_⟩
  obtain ⟨p, e1, h2⟩ := sem_oz.mp hP
  obtain ⟨hl, h3⟩ := sem_izno.mp h2
  obtain ⟨F2, l2, S2, pd, _⟩ := S1.escM md e1
  have hv := pd.len
  refine ⟨le_sizeLine (by omega), fun q hq => ?_⟩
  have x : Ext H1 (upd H1 q (.tup vs)) := Ext.upd hq
  exact ⟨q, vs, rfl, SqT.of (by unfold L2.upd; rw [if_pos rfl]), by omega, sets_ok ((S1.back S2).ext x) (pd.ext x) hl.symm fun σ' S' => ft.nx _ σ' _ F2 h3 S' (l1.trans l2)⟩
/-- .. of locals that the target swaps -/
theorem sparo2 {st : Stmt} {es : List Expr} {f : FM} {i j : Nat} (h : ∀ {ta : TA}, PA X es ta → PS X st (tPar i j ta)) (he : XM X E EX es f) : XS X E EX st (fParO [i, j] f) := PS.to (h he) fun Q σ H ⟨F, ρ, P, S, hm, ft⟩ => by
  refine ⟨F, ρ, fun ms ρ1 => (oz (mescs ρ1 ms) fun p => if p.1.length = [i, j].length then Z.nx (setsM [i, j] p.1 p.2) else .no).sem EX P, S, sem_z.mp hm, fun ms ρ1 vs H1 F1 hP S1 l1 md => ?_⟩
  obtain ⟨p, e1, h2⟩ := sem_oz.mp hP
  obtain ⟨hl, h3⟩ := sem_izno.mp h2
  obtain ⟨F2, l2, S2, pd, _⟩ := S1.escM md e1
  obtain ⟨v, r, rfl, w, r', rfl, rfl, q⟩ := sets_ok (Q := Q.nx) (S1.back S2) pd hl.symm fun σ' S' => ft.nx _ σ' _ F2 h3 S' (l1.trans l2)
  exact ⟨v, w, rfl, q⟩
theorem sparo3 {st : Stmt} {es : List Expr} {f : FM} {i j l : Nat} (h : ∀ {ta : TA}, PA X es ta → PS X st (tPar3 i j l ta)) (he : XM X E EX es f) : XS X E EX st (fParO [i, j, l] f) := PS.to (h he) fun Q σ H ⟨F, ρ, P, S, hm, ft⟩ => by
  refine ⟨F, ρ, fun ms ρ1 => (oz (mescs ρ1 ms) fun p => if p.1.length = [i, j, l].length then Z.nx (setsM [i, j, l] p.1 p.2) else .no).sem EX P, S, sem_z.mp hm, fun ms ρ1 vs H1 F1 hP S1 l1 md => ?_⟩
  obtain ⟨p, e1, h2⟩ := sem_oz.mp hP
  obtain ⟨hl, h3⟩ := sem_izno.mp h2
  obtain ⟨F2, l2, S2, pd, _⟩ := S1.escM md e1
  obtain ⟨v, r, rfl, w, r', rfl, x, r'', rfl, rfl, q⟩ := sets_ok (Q := Q.nx) (S1.back S2) pd hl.symm fun σ' S' => ft.nx _ σ' _ F2 h3 S' (l1.trans l2)
  exact ⟨v, w, x, rfl, q⟩
end
end DL
/-! FL14: x op= e, an instance whose class has no in-place def. -/
namespace DL
open PySem L2
section
variable {X : Cx} {E : En} {EX : DX} {b : Expr} {pos : Pos} {op : Operator} {C f : Addr} {fb : FE}
theorem saug {i : Nat} {y : Str} {p : Pos} {fdl : FuncData} {psl : List Str} {kl : Nat} {FL : FF} (T : OwnL X.K C op f) (N : NoIn X.K C op.info.2) (GL : GOk X kl f fdl psl FL) (hrl : RoomG kl X.A) (hbl : Binds X.K fdl psl [])
    (th : Th X E EX) (hN : X.N.Nodup) (hi : X.N[i]? = some y) (hx : Loc X.env.scope y) (hb : XE X E EX b fb) (hf : X.fn y = true ∨ X.env.scope.names.lookup y = some .local := by first | exact .inl rfl | exact .inr rfl | assumption) :
    XS X E EX (.AugAssign (.Name y p) op b pos) (fSet (fOwn (fun _ _ => none) C FL noF (fVar i) fb) (gS1 i)) := by
  obtain ⟨W, tk, lk⟩ := th.w
  refine (ds_aug T N GL hrl hbl lk (fun σ => passAt tk σ) hN hi hx hb hf).mono fun K ρ hp => ?_
  have h0 := sem_mono (sem_z.mp hp) (Q := fun r ρ1 => ∃ d ρ2, esc ρ1 r = some (d, ρ2) ∧ gSet i d ρ2 K.nx) fun r ρ1 h2 => by
    obtain ⟨q, e1, h3⟩ := sem_oz.mp h2
    obtain ⟨ρ2, e2, h4⟩ := sem_oz.mp h3
    cases e2
    exact ⟨q.1, q.2, e1, h4⟩
  have hv : ∀ {P : Rf → DEnv → Prop}, lif EX (fVar i) ρ P → mVar i ρ P := fun {P} h => by
    obtain ⟨d, e, h⟩ := sem_ob.mp h
    obtain ⟨dv, e, _⟩ := slotD_some e
    exact ⟨⟨dv, e⟩, h⟩
  rcases own_sem (G := fun _ _ _ => False) (fun a b d e => by cases e) h0 with h1 | h1
  · obtain ⟨q1, q2⟩ := hv h1
    exact ⟨q1, sem_mono q2 fun r2 ρ2 ⟨_, _, _, _, _, h, _⟩ => h.elim⟩
  · obtain ⟨q1, q2⟩ := hv h1
    refine ⟨q1, sem_mono q2 fun r2 ρ2 ⟨d1, d2, g1, g2, h⟩ => ⟨d1, d2, g1, g2, ?_⟩⟩
    rcases h with h | ⟨c1, c2, as, ρ3, is, hh, hs⟩
    · exact .inl h
    · exact (noF_sp hs).elim
end
end DL
/-! FM: later parts of texts as functions. -/
namespace DL
open PySem L2
/-- a, b = a list -/
def gL1 (n : Nat) (h : FGs) : FG := fun d ρ => match d with
  | .lst ds => if ds.length = n then h ds ρ else none
  | _ => none
@[simp ↓] theorem gL1_s (n : Nat) (h : FGs) (ds : List D) (ρ : DEnv) : gL1 n h (.lst ds) ρ = (if ds.length = n then h ds ρ else none) := rfl
/-- enumerate of a tuple -/
def fEnumT (fa : FA) : FI := fun ρ => (fa ρ).bind fun rs ρ1 => match rs with
  | [r] => ob (esc ρ1 r) fun p => match p.1 with
    | .tup ds => .ok (ds.zipIdx.map fun q => .tup [.int q.2, q.1]) p.2
    | _ => .no
  | _ => .no
@[simp ↓] theorem fEnumT_s (fa : FA) (ρ : DEnv) : fEnumT fa ρ = ((fa ρ).bind fun rs ρ1 => match rs with
  | [r] => ob (esc ρ1 r) fun p => match p.1 with
    | .tup ds => .ok (ds.zipIdx.map fun q => .tup [.int q.2, q.1]) p.2
    | _ => .no
  | _ => .no) := rfl
/-- the kinds of the left side of a reflected == -/
def kindD : D → Option String
  | .non => some "NoneType"
  | .int _ => some "int"
  | .str _ => some "str"
  | .lst _ => some "list"
  | .tup _ => some "tuple"
  | .dic _ => some "dict"
  | _ => none
/-- == where the instance may stand at the right -/
def eqRA (fe : EqF) (a b : D) : Option Bool := match eqA fe 6 a b with
  | some r => some r
  | none => match b with
    | .ins C _ => if (kindD a).isSome = true then ownEq fe C b a else none
    | _ => none
def eqR (fe : EqF) : D → D → Option D
  | .str i, .str j => some (.bl (decide (i = j)))
  | a, b => (eqRA fe a b).map .bl
def neR (fe : EqF) : D → D → Option D
  | .str i, .str j => some (.bl (!decide (i = j)))
  | a, b => (eqRA fe a b).map fun r => .bl (!r)
end DL
/-! FL15: a, b = a list. -/
namespace DL
open PySem L2
section
variable {X : Cx} {E : En} {EX : DX} {es : List Expr} {pos : Pos}
def gLstD (n : Nat) (m : MGs) : MG := fun d ρ Q => ∃ ds, d = .lst ds ∧ ds.length = n ∧ m ds ρ Q
theorem dg_lst {k : Nat} {m : MGs} {n : Nat} (hc : X.calm = true) (h : DGs X E es m) (hn : (assignEach es X.env).length = n := by rfl) (hst : (assignEach es X.env).findIdx? (·.1) = none := by rfl) : DG X E (.Tuple es k pos) (gLstD n m) := PG.to (pg_lst hc h hn hst) fun v σ H Q ⟨F, ρ, d, P, S, r, ⟨ds, e, hl, hm⟩, k⟩ => by
  subst e
  cases r with
  | lst h rs => exact ⟨_, _, rfl, .inl (S.hard h), by rw [rs.length, hl], F, ρ, ds, P, S, rs, hm, k⟩
theorem glst {k n : Nat} {h : FGs} (hc : X.calm = true) (hh : XGs X E es h) (hn : (assignEach es X.env).length = n := by rfl) (hst : (assignEach es X.env).findIdx? (·.1) = none := by rfl) : XG X E (.Tuple es k pos) (gL1 n h) := (dg_lst hc hh hn hst).mono fun d ρ Q ⟨ρ', e, hq⟩ => by
  cases d with
  | lst ds =>
    simp only [gL1] at e
    split at e
    · exact ⟨ds, rfl, by assumption, ρ', e, hq⟩
    · cases e
  | _ => cases e
end
end DL
/-! FL16: == and != with the instance at the right. -/
namespace DL
open PySem L2
section
open PySem.Spec PyProof.Rows PySem.W
variable {prog : Program} {w : World} {A : Around} {E : Value → Shared → Prop} {s : Shared} {K : Frag} {x C L f g : Addr} {h₀ : Heap} {m : Str → Option Value} {ox : Obj} {od : Option Obj} {id : String} {neg : Bool}
/-- a kind's == knows nothing of the instance -/
def Dec (M : Model) (A : Around) (s : Shared) (E : Value → Shared → Prop) (T : String) (neg : Bool) (a : Value) (x : Addr) : Prop := ∃ id, Slot T (cmpInfo (GB.opB neg)).2.1 id ∧ ∀ Q : Value → Shared → Prop, Q .notImplemented s → wpAny M A (call (.builtin id) [a, .ref x]) Q E s
theorem dec_none : Dec (model prog w) A s E "NoneType" neg .none x := by
  cases neg with
  | false => exact ⟨_, F.slot_NoneType_eq, fun Q h => call_gives F.slot_NoneType_eq (show s.TypeIs .none "NoneType" from rfl) F.entry_NoneType_eq (F.args_NoneType_eq_2 _ _) (PySem.SeqAt.NoneType___eq___none_ref_0 x) h⟩
  | true => exact ⟨_, F.slot_NoneType_ne, fun Q h => call_gives F.slot_NoneType_ne (show s.TypeIs .none "NoneType" from rfl) F.entry_NoneType_ne (F.args_NoneType_ne_2 _ _) (PySem.SeqAt.NoneType___ne___none_ref_0 x) h⟩
theorem dec_int {i : Int} {t : Tok} (hx : s.heap.get? x = some ox) (hd : ∀ v, ox.data ≠ .prim v) : Dec (model prog w) A s E "int" neg (.int i t) x := by
  cases neg with
  | false => exact ⟨_, F.slot_int_eq, fun Q h => int_declines (name := "__eq__") F.slot_int_eq F.entry_int_eq (F.args_int_eq_2 _ _) rfl rfl hx hd h⟩
  | true => exact ⟨_, F.slot_int_ne, fun Q h => int_declines (name := "__ne__") F.slot_int_ne F.entry_int_ne (F.args_int_ne_2 _ _) rfl rfl hx hd h⟩
theorem asStr_ins {M : Model} {Q : Option Str → Shared → Prop} (hx : s.heap.get? x = some ox) (hd : ∀ v, ox.data ≠ .prim v) (h : Q none s) : wpAny M A (asStr? (.ref x)) Q E s := by
  unfold asStr?
  refine wpAny_bind (wpAny_load hx ?_)
  cases e : ox.data with
  | prim v => exact absurd e (hd v)
  | _ => exact wpAny_pure h
theorem str_declines {fn : List Nat → List Nat → Bool} {a : Str} {t : Tok} {name : String} {dn : Str} {B : Builtin} (slot : Slot "str" dn id) (entry : entryFor table id = some B) (args : argsOk id ⟨[.str a t, .ref x], []⟩)
    (hB : B = Builtin.Str.strCompare name fn) (hsl : slotArgs name 1 ⟨[.str a t, .ref x], []⟩ = pure (.str a t, [.ref x])) (hx : s.heap.get? x = some ox) (hd : ∀ v, ox.data ≠ .prim v) {Q : Value → Shared → Prop} (h : Q .notImplemented s) :
    wpAny (model prog w) A (call (.builtin id) [.str a t, .ref x]) Q E s := by
  refine wpAny_call (codeAny_call_builtin slot.plain entry (slot.check _ _ _ _ _ _ _ _ (typeIs_str s a t) args ?_))
  subst hB
  unfold Builtin.Str.strCompare Builtin.Str.strSlot
  rw [hsl]
  refine wpAny_bind (wpAny_bind (wpAny_pure (wpAny_bind (wpAny_pure (wpAny_pure ?_)))))
  refine wpAny_bind (asStr_ins hx hd ?_)
  exact wpAny_bind (wpAny_rule (show wpAny (model prog w) A.in1 (pure (PySem.Fin.done (.ret .notImplemented))) _ _ s from wpAny_pure h))
theorem dec_str {a : Str} {t : Tok} (hx : s.heap.get? x = some ox) (hd : ∀ v, ox.data ≠ .prim v) : Dec (model prog w) A s E "str" neg (.str a t) x := by
  cases neg with
  | false => exact ⟨_, F.slot_str_eq, fun Q h => str_declines (name := "__eq__") F.slot_str_eq F.entry_str_eq (F.args_str_eq_2 _ _) rfl rfl hx hd h⟩
  | true => exact ⟨_, F.slot_str_ne, fun Q h => str_declines (name := "__ne__") F.slot_str_ne F.entry_str_ne (F.args_str_ne_2 _ _) rfl rfl hx hd h⟩
theorem dec_list {l : Addr} (X : K.In s.heap) (I : InstAt s.heap x ox C od) (hl : s.TypeIs (.ref l) "list") (hs : subIn K (.ref C) (.type "list") = some false) : Dec (model prog w) A s E "list" neg (.ref l) x := by
  have no : Looks (model prog w) s.heap (isInstance (.ref x) (.type "list")) false := (I.type).andThen (looks_subIn X hs)
  cases neg with
  | false =>
    refine ⟨_, F.slot_list_eq, fun Q h => wpAny_call (codeAny_call_builtin F.slot_list_eq.plain F.entry_list_eq (F.slot_list_eq.check _ _ _ _ _ _ _ _ hl (F.args_list_eq_2 _ _) ?_))⟩
    unfold Builtin.«list.__eq__»
    refine wpAny_bind (wpAny_of_eq (a := ((Value.ref l : Value), [Value.ref x])) rfl ?_)
    refine wpAny_bind (no.here ?_)
    exact wpAny_pure h
  | true =>
    refine ⟨_, F.slot_list_ne, fun Q h => wpAny_call (codeAny_call_builtin F.slot_list_ne.plain F.entry_list_ne (F.slot_list_ne.check _ _ _ _ _ _ _ _ hl (F.args_list_ne_2 _ _) ?_))⟩
    unfold Builtin.«list.__ne__»
    refine wpAny_bind (wpAny_of_eq (a := ((Value.ref l : Value), [Value.ref x])) rfl ?_)
    refine wpAny_bind (no.here ?_)
    exact wpAny_pure h
theorem dec_tuple {l : Addr} (X : K.In s.heap) (I : InstAt s.heap x ox C od) (hl : s.TypeIs (.ref l) "tuple") (hs : subIn K (.ref C) (.type "tuple") = some false) : Dec (model prog w) A s E "tuple" neg (.ref l) x := by
  have no : Looks (model prog w) s.heap (isInstance (.ref x) (.type "tuple")) false := (I.type).andThen (looks_subIn X hs)
  cases neg with
  | false =>
    refine ⟨_, F.slot_tuple_eq, fun Q h => wpAny_call (codeAny_call_builtin F.slot_tuple_eq.plain F.entry_tuple_eq (F.slot_tuple_eq.check _ _ _ _ _ _ _ _ hl (F.args_tuple_eq_2 _ _) ?_))⟩
    unfold Builtin.«tuple.__eq__»
    refine wpAny_bind (wpAny_of_eq (a := ((Value.ref l : Value), [Value.ref x])) rfl ?_)
    refine wpAny_bind (no.here ?_)
    exact wpAny_pure h
  | true =>
    refine ⟨_, F.slot_tuple_ne, fun Q h => wpAny_call (codeAny_call_builtin F.slot_tuple_ne.plain F.entry_tuple_ne (F.slot_tuple_ne.check _ _ _ _ _ _ _ _ hl (F.args_tuple_ne_2 _ _) ?_))⟩
    unfold Builtin.«tuple.__ne__»
    refine wpAny_bind (wpAny_of_eq (a := ((Value.ref l : Value), [Value.ref x])) rfl ?_)
    refine wpAny_bind (no.here ?_)
    exact wpAny_pure h
theorem dec_dict {l : Addr} (X : K.In s.heap) (I : InstAt s.heap x ox C od) (hl : s.TypeIs (.ref l) "dict") (hs : subIn K (.ref C) (.type "dict") = some false) : Dec (model prog w) A s E "dict" neg (.ref l) x := by
  have no : Looks (model prog w) s.heap (isInstance (.ref x) (.type "dict")) false := (I.type).andThen (looks_subIn X hs)
  cases neg with
  | false =>
    refine ⟨_, F.slot_dict_eq, fun Q h => wpAny_call (codeAny_call_builtin F.slot_dict_eq.plain F.entry_dict_eq (F.slot_dict_eq.check _ _ _ _ _ _ _ _ hl (F.args_dict_eq_2 _ _) ?_))⟩
    unfold Builtin.«dict.__eq__»
    refine wpAny_bind (wpAny_bind (wpAny_of_eq (a := ()) rfl (wpAny_bind (wpAny_of_eq (a := ((Value.ref l : Value), [Value.ref x])) rfl (wpAny_pure ?_)))))
    refine wpAny_bind (no.here ?_)
    exact wpAny_bind (wpAny_rule (wpAny_pure h))
  | true =>
    refine ⟨_, F.slot_dict_ne, fun Q h => wpAny_call (codeAny_call_builtin F.slot_dict_ne.plain F.entry_dict_ne (F.slot_dict_ne.check _ _ _ _ _ _ _ _ hl (F.args_dict_ne_2 _ _) ?_))⟩
    unfold Builtin.«dict.__ne__»
    refine wpAny_bind (wpAny_bind (wpAny_of_eq (a := ()) rfl (wpAny_bind (wpAny_of_eq (a := ((Value.ref l : Value), [Value.ref x])) rfl (wpAny_pure ?_)))))
    refine wpAny_bind (no.here ?_)
    exact wpAny_bind (wpAny_rule (wpAny_pure h))
theorem rc_refl_K {a : Value} {T : String} {Q : Value → Shared → Prop} (hu : A.units < cLine) (ha : s.TypeIs a T) (X : K.In s.heap) (I : InstAt s.heap x ox C od) (hsub : subIn K (.ref C) (.type T) = some false) (dec : ∀ {E : Value → Shared → Prop}, Dec (model prog w) A s E T neg a x)
    (two : wpAny (model prog w) A (tryCompare (.ref x) (cmpInfo (GB.opB neg)).2.2 a) (fun o s' => ∃ v, o = some v ∧ Q v s') E s) : wpAny (model prog w) A (richCompare (GB.opB neg) a (.ref x)) Q E s := by
  obtain ⟨id, h1, hc⟩ := dec (E := E)
  have hne : (Value.type T != Value.ref C) = true := rfl
  have L5 : Looks (model prog w) s.heap (isSubtype (.ref C) (.type T)) false := looks_subIn X hsub
  rcases hi : cmpInfo (GB.opB neg) with ⟨sym, f, r⟩
  rw [hi] at h1 two
  simp only [richCompare, hi, ha.oneThing_none]
  refine wpAny_holding (wpAny_bind (wpAny_cRoomFor hu ?_))
  refine wpAny_bind (wpAny_typeOf ha (wpAny_bind (I.type.here ?_)))
  simp only [hne, if_true]
  refine wpAny_bind (L5.here ?_)
  simp only [Bool.false_eq_true, if_false, Bool.not_false, if_true]
  refine wpAny_bind (m := tryCompare a _ (.ref x)) (wpAny_tryCompare_declines ha h1 (hc _ ⟨rfl, ?_⟩))
  refine wpAny_bind (m := tryCompare (.ref x) _ a) (wpAny_mono two (fun o s' ho => ?_) fun _ _ e => e)
  obtain ⟨v, rfl, hq⟩ := ho
  exact wpAny_pure hq
end
section
open PySem.Spec PyProof.Rows
variable {X : Cx} {n m : Nat} {a b : D} {r neg : Bool} {fe : EqF}
theorem rcB_refl {C : Addr} {gs : List (Str × D)} {T : String} (ok : EqOk X m fe) (hk : kindD a = some T) (sub : PySem.W.subIn X.K (.ref C) (.type T) = some false) (e : ownEq fe C (.ins C gs) a = some r) : RcB X (m + 1) neg a (.ins C gs) r := by
  intro A pins s σ H F x y u v sb I S ra rb rx ry
  unfold ownEq at e
  obtain ⟨G, hG, e⟩ := Option.bind_eq_some_iff.mp e
  obtain ⟨r', hr', e⟩ := Option.bind_eq_some_iff.mp e
  have er : r' = r := by split at e <;> cases e; rfl
  subst er
  have ec := ok.own C G hG
  obtain ⟨f, fd, ps, hs, hf, hb, g⟩ := ec.ex
  have rb0 := rb
  cases rb with
  | @ins p C dx vs ds eF rF =>
    cases ry
    have hH : H p = some (.ins C dx vs) := S p _ eF
    obtain ⟨mA, J, _⟩ := ins_get I.hok hH
    obtain ⟨od, J, _⟩ := J.look
    have X1 := I.kIn
    have hu : A.units < cLine := Nat.lt_of_succ_lt sb.room.units1
    have hx := J.at_
    have tt := typeIs_of I S ra rx
    have run := own_run hb g (sb.mono (Nat.le_succ _)) I S rb0 ra (x := .ref p) (u := .ref p) rfl rx hr'
    have run1 := own_run hb g sb.in1 I S rb0 ra (x := .ref p) (u := .ref p) rfl rx hr'
    have two : wpAny (model X.prog X.w) A (tryCompare (.ref p) (cmpInfo (GB.opB neg)).2.2 u) (fun o s' => ∃ v, o = some v ∧ (v = .bool (r' ^^ neg) ∧ PostE X pins σ H s')) X.xe s := by
      cases neg with
      | false =>
        unfold tryCompare
        refine wpAny_bind (PySem.W.ifBound_K X1 J hs hf (wpAny_mono run (fun q s' z => ?_) fun _ _ x => x))
        obtain ⟨rfl, z⟩ := z
        exact wpAny_pure ⟨_, rfl, by simp, z⟩
      | true =>
        refine PySem.W.tryNe_K sb.room.units1 X1 J ec.ne hs hf ec.ob ?_
        refine wpAny_mono run1 (fun q s' z => ?_) fun _ _ x => x
        obtain ⟨rfl, z⟩ := z
        exact ⟨r', rfl, _, rfl, by simp, z⟩
    cases ra with
    | non => cases hk; cases rx; exact rc_refl_K (T := "NoneType") hu rfl X1 J sub dec_none two
    | int i => cases hk; obtain ⟨t, rfl⟩ := rx; exact rc_refl_K (T := "int") hu (typeIs_int s i t) X1 J sub (dec_int hx (fun v e => by cases e)) two
    | str i => cases hk; obtain ⟨t, rfl⟩ := rx; exact rc_refl_K (T := "str") hu (typeIs_str s i t) X1 J sub (dec_str hx (fun v e => by cases e)) two
    | lst e1 r1 => cases hk; cases rx; exact rc_refl_K (T := "list") hu tt X1 J sub (dec_list X1 J tt sub) two
    | tup e1 r1 => cases hk; cases rx; exact rc_refl_K (T := "tuple") hu tt X1 J sub (dec_tuple X1 J tt sub) two
    | dic e1 r1 => cases hk; cases rx; exact rc_refl_K (T := "dict") hu tt X1 J sub (dec_dict X1 J tt sub) two
    | _ => cases hk
/-- the classes are none of the kinds -/
def EqNk (X : Cx) (fe : EqF) : Prop := ∀ C F, fe C = some F → ∀ T ∈ kinds, PySem.W.subIn X.K (.ref C) (.type T) = some false
theorem eqNk_1 {C : Addr} {F : FF} (h : ∀ T ∈ kinds, PySem.W.subIn X.K (.ref C) (.type T) = some false) : EqNk X (eqFc C F noEq) := fun C' G q => by
  unfold eqFc at q
  split at q
  · rename_i z; subst z; exact h
  · cases q
theorem kind_mem {T : String} (h : kindD a = some T) : T ∈ kinds := by
  cases a <;> first | (cases h; done) | (cases h; simp [kinds])
theorem eqRA_ok (ok : EqOk X m fe) (nk : EqNk X fe) (e : eqRA fe a b = some r) : RcB X (6 + m) neg a b r := by
  unfold eqRA at e
  split at e
  · rename_i q
    cases e
    exact (eqA_ok ok 6 a b _ q).1 neg
  · split at e
    · split at e
      · rename_i C gs _ hk
        obtain ⟨T, hT⟩ := Option.isSome_iff_exists.mp hk
        have hC : ∃ F, fe C = some F := by
          unfold ownEq at e
          obtain ⟨G, hG, _⟩ := Option.bind_eq_some_iff.mp e
          exact ⟨G, hG⟩
        obtain ⟨F, hF⟩ := hC
        intro A pins s σ H F' x y u v sb
        exact rcB_refl ok hT (nk C F hF T (kind_mem hT)) e A pins s σ H F' x y u v (sb.mono (by omega))
      · cases e
    · cases e
def rEqR (fe : EqF) (neg : Bool) : R2 := fun x y H Q => ∃ F a b r, Sits F H ∧ Rep F x a ∧ Rep F y b ∧ eqRA fe a b = some r ∧ ∀ H', Ext H H' → Q (.bl (r ^^ neg)) H'
def gEqR (fe : EqF) (neg : Bool) : D → D → D → Prop := fun a b d => ∃ r, eqRA fe a b = some r ∧ d = .bl (r ^^ neg)
theorem op_eqR (ok : EqOk X m fe) (nk : EqNk X fe) (hr : RoomG (6 + m) X.A) : OpR X (compareOp (GB.opB neg)) (rEqR fe neg) := by
  intro pins s σ H x y v u Q I rx ry hq
  obtain ⟨F, a, b, r, S, ra, rb, e, q⟩ := hq
  have main : wpAny (model X.prog X.w) X.A (richCompare (GB.opB neg) v u) (EP X pins σ Q) X.xe s := by
    refine wpAny_mono (eqRA_ok (neg := neg) ok nk e X.A pins s σ H F x y _ _ ⟨hr, rfl⟩ I S ra rb rx ry) (fun z s' w => ?_) fun _ _ x => x
    obtain ⟨rfl, H', I', x'⟩ := w
    exact ⟨.bl (r ^^ neg), H', I', rfl, q H' x'⟩
  cases neg with
  | false => exact main
  | true => exact main
theorem od_eqR : OpD (rEqR fe neg) (gEqR fe neg) := fun E F H σ ρ x y d1 d2 d Q S v1 v2 ⟨r, e, hd⟩ k => by
  subst hd
  exact ⟨stand F H, d1, d2, r, stand_sits S.sits, stand_rep v1, stand_rep v2, e, fun H' x => k _ H' F (S.ext x) .refl (.bl _)⟩
theorem c_eqR (ok : EqOk X m fe) (nk : EqNk X fe) (hr : RoomG (6 + m) X.A) : CmF X .Eq (eqR fe) := CmF.or (g := eqS1) (g' := fun a b => (eqRA fe a b).map .bl)
  (cF op_eq od_eqS fun a b d h => by
    unfold eqS1 at h
    split at h
    · cases h; exact ⟨_, _, rfl, rfl, rfl⟩
    · cases h)
  (cF (op_eqR (neg := false) ok nk hr) od_eqR fun a b d h => by
    obtain ⟨r, h1, rfl⟩ := Option.map_eq_some_iff.mp h
    exact ⟨r, h1, by simp⟩)
  fun a b d h => by
    unfold eqR at h
    split at h
    · cases h; exact .inl rfl
    · exact .inr h
theorem c_neR (ok : EqOk X m fe) (nk : EqNk X fe) (hr : RoomG (6 + m) X.A) : CmF X .NotEq (neR fe) := CmF.or (g := neS1) (g' := fun a b => (eqRA fe a b).map fun r => .bl (!r))
  (cF op_ne od_neS fun a b d h => by
    unfold neS1 at h
    split at h
    · cases h; exact ⟨_, _, rfl, rfl, rfl⟩
    · cases h)
  (cF (op_eqR (neg := true) ok nk hr) od_eqR fun a b d h => by
    obtain ⟨r, h1, rfl⟩ := Option.map_eq_some_iff.mp h
    exact ⟨r, h1, by simp⟩)
  fun a b d h => by
    unfold neR at h
    split at h
    · cases h; exact .inl rfl
    · exact .inr h
end
end DL
/-! FL17: enumerate(a tuple). -/
namespace DL
section
open PySem PySem.Spec PyProof.Rows
open PySem.AutoSeq1 (wpAny_loadPart')
set_option maxHeartbeats 4000000 in
theorem meets_enumerate_newT (l : Addr) (items : Array Value) (n : Nat) (dct : Option Addr) (sl : Array (Option Value)) :
    Meets (Builtin.«enumerate.__new__» ⟨[.type "enumerate", .ref l], []⟩) (fun _ R s => s.heap.get? l = some { cls := .type "tuple", dict := dct, data := .seq items n, slots := sl } ∧
      R (.ok (.ret (.ref (s.heap.push { cls := .type "tuple_iterator", data := .fields #[.ref l, .int 0 0] }).objs.size)))
        { s with heap := (s.heap.push { cls := .type "tuple_iterator", data := .fields #[.ref l, .int 0 0] }).push { cls := .type "enumerate", data := .fields #[.none, .bool false, .ref s.heap.objs.size, rawInt 0, .none, .none] } }) :=
  .of_wp fun prog w A R s h => by
    obtain ⟨hp, g, d, tk, os⟩ := s; obtain ⟨hl, h⟩ := h
    have hsub := sub_enumerate
    have hL : Heap.IsTuple (Shared.heap ⟨hp, g, d, tk, os⟩) l items := ⟨_, hl, rfl, n, rfl⟩
    wp_walk using wpAny_loadPart' hl
    refine wpAny_stack_any fun st => wpAny_pure ?_
    split
    · rename_i c _ _ _ _ _
      cases (c == Value.type "enumerate")
      · wp_walk using wpAny_loadPart' hl, wpAny_pyIter_tuple hL
        exact ⟨_, rfl, h⟩
      · wp_walk using wpAny_loadPart' hl, wpAny_pyIter_tuple hL
        exact ⟨_, rfl, h⟩
    · wp_walk using wpAny_loadPart' hl, wpAny_pyIter_tuple hL
      exact ⟨_, rfl, h⟩
variable {prog : Program} {w : World} {A : Around} {E : Value → Shared → Prop} {s : Shared}
theorem call_enumerate_tuple {l : Addr} {items : Array Value} {Q : Value → Shared → Prop} (hL : s.heap.IsTuple l items)
    (h : ∀ h', IsEnum h' (s.heap.objs.size + 1) s.heap.objs.size 0 .none → h'.IsTupleIter s.heap.objs.size l 0 → h'.objs.size = s.heap.objs.size + 2 →
      (∀ b o, s.heap.get? b = some o → h'.get? b = some o) → Q (.ref (s.heap.objs.size + 1)) { s with heap := h' }) :
    wpAny (model prog w) A (call (.type "enumerate") [.ref l]) Q E s := by
  obtain ⟨⟨c, dct, dt, sl⟩, hl, hc, n, hd⟩ := hL
  replace hc : c = .type "tuple" := hc
  replace hd : dt = .seq items n := hd
  subst hc hd
  refine callType_new F.called_enumerate (by decide) (F.typeCall_enumerate_1 _) (F.newCall_enumerate_1 _) (fun obj => F.args_object_init_2 obj _) F.entry_enumerate_new
    (meets_enumerate_newT l items n dct sl) ⟨hl, ?_⟩
  have hz : (s.heap.push { cls := .type "tuple_iterator", data := .fields #[.ref l, .int 0 0] }).objs.size = s.heap.objs.size + 1 := Heap.size_push ..
  show _ ∧ _
  rw [hz]
  have he : IsEnum ((s.heap.push { cls := .type "tuple_iterator", data := .fields #[.ref l, .int 0 0] }).push
      { cls := .type "enumerate", data := .fields #[.none, .bool false, .ref s.heap.objs.size, rawInt 0, .none, .none] }) (s.heap.objs.size + 1) s.heap.objs.size 0 .none := by
    have := Heap.get?_push_size (s.heap.push { cls := .type "tuple_iterator", data := .fields #[.ref l, .int 0 0] })
      (o := { cls := .type "enumerate", data := .fields #[.none, .bool false, .ref s.heap.objs.size, rawInt 0, .none, .none] }) rfl
    rw [hz] at this; exact this
  refine ⟨⟨_, he, rfl⟩, h _ he ⟨_, Heap.get?_push_of_some _ (Heap.get?_push_size _ rfl), rfl, rfl⟩ (by rw [Heap.size_push, hz]) fun b o x => Heap.get?_push_of_some _ (Heap.get?_push_of_some _ x)⟩
end
end DL
namespace L2
open PySem PySem.Spec PyProof.Rows
def IteT (K : PySem.W.Frag) (a : Addr) : It :=
  ⟨fun i H => ∃ (xs : List V) (x : V), SqT K H a xs ∧ xs[i]? = some x, fun i H v H' => ∃ T x, v = .ref T ∧ H T = none ∧ H' = upd H T (.tup [.int (i : Nat), x]) ∧ ∀ xs, SqT K H a xs → xs[i]? = some x, fun i H => ∃ xs : List V, SqT K H a xs ∧ xs.length ≤ i⟩
theorem enum_ne {h : Heap} {e it a : Addr} {i : Int} {old : Value} {items : Array Value} (he : IsEnum h e it i old) (ht : h.IsTuple a items) : e ≠ a := fun z => by
  subst z
  obtain ⟨o, ho, hc, _⟩ := ht
  have he' : h.get? e = some _ := he
  rw [he'] at ho
  cases ho
  simp at hc
theorem titer_ne {h : Heap} {it a : Addr} {i : Nat} {items : Array Value} (hi : h.IsTupleIter it a i) (ht : h.IsTuple a items) : a ≠ it := fun z => by
  subst z
  obtain ⟨o, ho, hc, _⟩ := ht
  obtain ⟨o', ho', hc', _⟩ := hi
  rw [ho] at ho'
  cases ho'
  rw [hc] at hc'
  simp at hc'
theorem turn_enumT {P : Program} {w : World} {K : PySem.W.Frag} {elts : List Expr} {kk : Nat} {tpos : Pos} (a e it : Addr) :
    Turn P w K (.Tuple elts kk tpos) (IteT K a) [e, it] e (fun i h => (∃ old, IsEnum h e it ((i : Nat) : Int) old) ∧ h.IsTupleIter it a i ∧ e ≠ it) where
  mem := by simp
  obj := fun i h st b hb => by
    obtain ⟨⟨old, he⟩, ⟨o, ho, hc, hd⟩, _⟩ := st
    have e' : b = e ∨ b = it := by simpa using hb
    rcases e' with z | z
    · rw [z]; exact ⟨_, he, fun v q => nomatch q⟩
    · rw [z]; exact ⟨o, ho, fun v q => by rw [hd] at q; cases q⟩
  keep := fun i h h' st k => let ⟨⟨old, he⟩, hi, hne⟩ := st; ⟨⟨old, k e (by simp) _ he⟩, hi.at fun o q => k it (by simp) o q, hne⟩
  item := by
    intro X hP hw hK hc i pins s σ H E I hf st hg
    subst hP hw hK
    obtain ⟨⟨old, he⟩, hit, hne⟩ := st
    obtain ⟨xs, x, hq, hx⟩ := hg
    obtain ⟨its, rv, p, hz⟩ := I.tuple hq
    obtain ⟨u, hu, ru⟩ := rv.get hx
    have p' : s.heap.IsTuple a its.toArray := p
    have hel : e < s.heap.objs.size := Heap.lt_size he
    have hil : it < s.heap.objs.size := by obtain ⟨_, q, _⟩ := hit; exact Heap.lt_size q
    have hea := enum_ne he p'
    have hai := titer_ne hit p'
    have hlt : i < its.toArray.size := by
      have := (List.getElem?_eq_some_iff.mp hu).1
      simpa using this
    refine wpAny_pyNext_enum_itemD (Draws.tuple (A := X.A.in1) (I.ok.hd hc) it a hai its.toArray) he ⟨hit, p'⟩ hlt hne (by simp [hne, hea]) fun y h' tk hy ho st' hT hsz hk => ?_
    have hyu : y = u := by
      have : its[i]? = some y := by simpa using hy
      rw [hu] at this
      exact (Option.some.inj this).symm
    subst hyu
    refine ⟨_, rfl, wpAny_letOwnedTupleGo_enum (s := { s with heap := h', toks := tk + 1 }) ho fun h'' he' sb => ?_⟩
    have hT2 : h''.get? s.heap.objs.size = some { cls := .type "tuple", data := .seq #[.int i tk, y] } := (sb.2 _ (Nat.ne_of_gt hel)).trans hT
    have new : ObjOk X.prog X.w (upd H s.heap.objs.size (.tup [.int (i : Nat), x])) h'' s.heap.objs.size (.tup [.int (i : Nat), x]) :=
      ⟨by show 2 ≤ sizeLine; decide, [.int i tk, y], .cons ⟨_, rfl⟩ (.cons ru .nil), ⟨_, hT2, rfl, _, rfl⟩⟩
    have I1 : Inv X pins σ (upd H s.heap.objs.size (.tup [.int (i : Nat), x])) { s with heap := h'', toks := tk + 1 } :=
      I.turnedNew (ch := [e, it]) (fun b ob hb q => (sb.2 b (fun z => hb (by simp [z]))).trans (hk b ob (fun z => hb (by simp [z])) (fun z => hb (by simp [z])) q)) hf (Nat.le_refl _) new
    refine ⟨.ref s.heap.objs.size, _, I1, rfl, ⟨_, x, rfl, I.hok.fresh (Nat.le_refl _), rfl, fun ys hy => by rw [I.tuple_inj hy hq]; exact hx⟩, ⟨⟨y, ?_⟩, st'.1.at fun o q => (sb.2 it (Ne.symm hne)).trans q, hne⟩, fun b hb => ?_⟩
    · have e1 : ((i + 1 : Nat) : Int) = (i : Int) + 1 := by omega
      rw [e1]; exact he'
    · have hb' : b < s.heap.objs.size := by
        have e' : b = e ∨ b = it := by simpa using hb
        rcases e' with z | z
        · rw [z]; exact hel
        · rw [z]; exact hil
      rw [upd_ne (Nat.ne_of_lt hb')]
      exact (hf b hb).1
  done := by
    intro X hP hw hK hc i pins s σ H E I hf st hg
    subst hP hw hK
    obtain ⟨⟨old, he⟩, hit, hne⟩ := st
    obtain ⟨xs, hq, hx⟩ := hg
    obtain ⟨its, rv, p, hz⟩ := I.tuple hq
    obtain ⟨f0, f1, f2, f3, f4, f5⟩ := hf it (by simp)
    have hl := rv.length
    have p' : s.heap.IsTuple a its.toArray := p
    have hT : s.TypeIs (.ref e) "enumerate" := ⟨_, he, rfl⟩
    have hE : its.toArray[i]? = none := by simp; omega
    unfold pyNext
    refine wpAny_bind (wpAny_attempt (wpAny_callSpecial?_slot (name := Str.ofString "__next__") hT F.slot_enumerate_next
      (wpAny_call_entry F.slot_enumerate_next hT F.entry_enumerate_next ?_ (F.args_enumerate_next_1 _))))
    show wpAny _ _ (field (.ref e) 2 >>= _) _ _ _
    refine wpAny_bind (wpAny_field he rfl (x := .ref it) rfl ?_)
    refine wpAny_bind (PySem.wpAny_nextOf_tuple_end (I.ok.hd hc) hit p' hE fun h' x he' hx' => ?_)
    obtain ⟨o, ho, hc⟩ := hx'
    refine wpAny_bind (wpAny_isInstance (T := "StopIteration") (b := true) ⟨o, ho, hc⟩ isSubtype_stop ?_)
    exact wpAny_pure ⟨rfl, I.turned (t' := s.toks) (fun b o hb q => he' b o hb q) f0 f1 f3 f4 f5⟩
  self := fun A i s Q E st h => let ⟨⟨_, he⟩, _⟩ := st; wpAny_pyIter_enum he h
def iEnumT (K : PySem.W.Frag) (ta : TA) : TI := fun σ H R => ta σ H fun vs H1 => ∃ a xs, vs = [.ref a] ∧ SqT K H1 a xs ∧ R (IteT K a) H1
theorem pi_enumT {X : Cx} {e : Expr} {ta : TA} {p pos tpos : Pos} {elts : List Expr} {kk : Nat} (hg : Gl X "enumerate") (hm : X.mg "enumerate" = none) (ha : PA X [e] ta) (hs : starEach [e] X.env = [(false, eval e X.env)] := by rfl) :
    PI X (.Tuple elts kk tpos) (.Call (.Name "enumerate" p) [e] [] pos) (iEnumT X.K ta) := by
  refine ⟨fun pins s σ H R I h => ?_⟩
  refine Call_ (ld_blt I hg hm boot_enumerate (PyProof.Rows.callWith_type1 (thn (ha.run pos pins s σ H _ I h) fun us s1 ⟨vs, H1, I1, r1, q1⟩ => ?_) hs rfl))
  obtain ⟨a, xs, ex, hq, q⟩ := q1
  subst ex
  cases r1 with
  | cons r rr =>
    cases rr
    cases r
    obtain ⟨its, rv, p', hz⟩ := I1.tuple hq
    refine DL.call_enumerate_tuple (show s1.heap.IsTuple a its.toArray from p') fun h' he hit hsz hk => wpAny_pyIter_enum he ?_
    have I2 : Inv X pins σ H1 { s1 with heap := h' } := I1.kept (t' := s1.toks) hk
    refine ⟨s1.heap.objs.size + 1, [s1.heap.objs.size + 1, s1.heap.objs.size], _, _, H1, rfl, I2, turn_enumT a (s1.heap.objs.size + 1) s1.heap.objs.size, ⟨⟨.none, he⟩, hit, Nat.succ_ne_self _⟩, fun b hb => ?_, q⟩
    have e' : b = s1.heap.objs.size + 1 ∨ b = s1.heap.objs.size := by simpa using hb
    have hle : s1.heap.objs.size ≤ b := by
      rcases e' with z | z
      · rw [z]; exact Nat.le_add_right _ _
      · rw [z]; exact Nat.le_refl _
    exact I1.fpOk hle (I1.hok.fresh hle)
end L2
namespace DL
open PySem L2
section
variable {X : Cx} {E : En} {EX : DX}
def mEnumT (m : MA) : MI := fun ρ P => m ρ fun rs ρ1 => ∃ r ds ρ2, rs = [r] ∧ esc ρ1 r = some (.tup ds, ρ2) ∧ P (fun _ => True) (ds.zipIdx.map fun q => .tup [.int q.2, q.1]) ρ2
theorem di_enumT {a : Expr} {m : MA} {p tpos pos : Pos} {elts : List Expr} {kk : Nat} (hg : Gl X "enumerate") (hm : X.mg "enumerate" = none) (ha : DA X E [a] m) (hs : starEach [a] X.env = [(false, eval a X.env)] := by rfl) :
    DI X E (.Tuple elts kk tpos) (.Call (.Name "enumerate" p) [a] [] pos) (mEnumT m) := PI.to (pi_enumT hg hm ha hs) fun σ H R ⟨F, ρ, P, S, hm, k⟩ =>
  ⟨F, ρ, _, S, hm, fun rs ρ1 vs H1 F1 ⟨r, ds, ρ2, er, he, hp⟩ S1 l1 d1 => by
    subst er
    match vs, d1 with
    | [v], ⟨dv, _⟩ =>
      obtain ⟨F2, l2, S2, r2⟩ := S1.esc dv he
      cases r2 with
      | tup h rr =>
        rename_i a vs
        refine ⟨a, vs, rfl, .inl (S2.hard h), k _ _ _ _ H1 F2 hp S2 (l1.trans l2) fun i F3 H3 σ3 ρ3 S3 l3 _ => ?_⟩
        have q : SqT X.K H3 a vs := .inl (S3.hard (l3 _ _ h))
        refine ⟨fun d hd => ?_, fun hl => ⟨vs, q, by rw [rr.length]; simpa using hl⟩⟩
        rw [List.getElem?_map, List.getElem?_zipIdx] at hd
        cases e : ds[i]? with
        | none => simp [e] at hd
        | some d0 =>
          simp [e] at hd
          subst hd
          obtain ⟨v0, hv, rv⟩ := rr.get e
          refine ⟨⟨vs, v0, q, hv⟩, fun x H' ⟨T, x0, e1, hT, e2, y⟩ => ?_⟩
          subst e1; subst e2
          have := y vs q
          rw [hv] at this
          cases this
          obtain ⟨F4, S4, l4, r4⟩ := S3.newTupN (ds := [.int (i : Nat), d0]) hT (.cons (.int _) (.cons (rv.mono l3) .nil))
          exact ⟨F4, S4, l4, r4.1, fun a o z => by rw [upd_ne (ne_of_none z hT)]; exact z, r4.2⟩⟩
theorem ienumT {tg e a : Expr} {fas : FA} (q : ∀ {m : MA}, DA X E [a] m → DI X E tg e (mEnumT m)) (ha : XA X E EX [a] fas) : XI X E EX tg e (fEnumT fas) := (q ha).mono fun ρ P hp => sem_mono (sem_bind.mp hp) fun rs ρ1 h1 => by
  match rs, h1 with
  | [], h1 => exact h1.elim
  | [r], h1 =>
    obtain ⟨y, e1, h2⟩ := sem_ob.mp h1
    obtain ⟨y1, y2⟩ := y
    cases y1 <;> first | exact ⟨r, _, _, rfl, e1, h2⟩ | exact h2.elim
  | _ :: _ :: _, h1 => exact h1.elim
end
end DL
/-! FB: rows that open the functions for simp (printed by mkfb.py from FL1). -/
namespace DL
open PySem L2
open D (blsOf strsOf intsOf)
section
variable {α β : Type}
@[simp ↓] theorem fVar_s (i : Nat) (ρ : DEnv) : fVar i ρ = (ob (slotD ρ[i]?) fun _ => .ok (.sl i) ρ) := rfl
@[simp ↓] theorem fC_s (d : D) (ρ : DEnv) : fC d ρ = (.ok (.val d) ρ) := rfl
@[simp ↓] theorem fBin_s (g : D → D → Option D) (fa fb : FE) (ρ : DEnv) : fBin g fa fb ρ = ((fa ρ).bind fun r1 ρ1 => (fb ρ1).bind fun r2 ρ2 => ob (r1.get ρ2) fun d1 => ob (r2.get ρ2) fun d2 => ob (g d1 d2) fun d => .ok (.val d) ρ2) := rfl
@[simp ↓] theorem fBinO_s (g : D → D → Option D) (fa fb : FE) (ρ : DEnv) : fBinO g fa fb ρ = ((fa ρ).bind fun r1 ρ1 => (fb ρ1).bind fun r2 ρ2 => ob (r1.get ρ2) fun d1 => ob (r2.get ρ2) fun d2 => ob (g d1 d2) fun d => .ok d ρ2) := rfl
@[simp ↓] theorem fNeg_s (fa : FE) (ρ : DEnv) : fNeg fa ρ = ((fa ρ).bind fun r ρ1 => ob (r.get ρ1) fun d => match d with
    | .int i => .ok (.val (.int (-i))) ρ1
    | _ => .no) := rfl
@[simp ↓] theorem fTst_s (fa : FE) (ρ : DEnv) : fTst fa ρ = ((fa ρ).bind fun r ρ1 => ob (r.get ρ1) fun d => match d with
    | .bl b => .ok b ρ1
    | _ => .no) := rfl
@[simp ↓] theorem fAndT_s (fa fb : FT) (ρ : DEnv) : fAndT fa fb ρ = ((fa ρ).bind fun c ρ1 => if c = true then fb ρ1 else .ok false ρ1) := rfl
@[simp ↓] theorem fOrT_s (fa fb : FT) (ρ : DEnv) : fOrT fa fb ρ = ((fa ρ).bind fun c ρ1 => if c = true then .ok true ρ1 else fb ρ1) := rfl
@[simp ↓] theorem fNotT_s (fa : FT) (ρ : DEnv) : fNotT fa ρ = ((fa ρ).bind fun c ρ1 => .ok (!c) ρ1) := rfl
@[simp ↓] theorem fAnd_s (fa fb : FE) (ρ : DEnv) : fAnd fa fb ρ = ((fa ρ).bind fun r ρ1 => ob (r.get ρ1) fun d => fBl d fun c => if c = true then fb ρ1 else .ok (.val (.bl false)) ρ1) := rfl
@[simp ↓] theorem fOr_s (fa fb : FE) (ρ : DEnv) : fOr fa fb ρ = ((fa ρ).bind fun r ρ1 => ob (r.get ρ1) fun d => fBl d fun c => if c = true then .ok (.val (.bl true)) ρ1 else fb ρ1) := rfl
@[simp ↓] theorem fNot_s (fa : FE) (ρ : DEnv) : fNot fa ρ = ((fa ρ).bind fun r ρ1 => ob (r.get ρ1) fun d => fBl d fun c => .ok (.val (.bl (!c))) ρ1) := rfl
@[simp ↓] theorem fIfE_s (t : FT) (fa fb : FE) (ρ : DEnv) : fIfE t fa fb ρ = ((t ρ).bind fun c ρ1 => if c = true then fa ρ1 else fb ρ1) := rfl
@[simp ↓] theorem fChain_s (g g' : D → D → Option D) (fa fb fc : FE) (ρ : DEnv) : fChain g g' fa fb fc ρ = ((fa ρ).bind fun r1 ρ1 => (fb ρ1).bind fun r2 ρ2 => ob (r1.get ρ2) fun d1 => ob (r2.get ρ2) fun d2 => ob (g d1 d2) fun d => fBl d fun c =>
    if c = true then (fc ρ2).bind fun r3 ρ3 => ob (r2.get ρ3) fun d2 => ob (r3.get ρ3) fun d3 => ob (g' d2 d3) fun d => .ok (.val d) ρ3 else .ok (.val (.bl false)) ρ2) := rfl
@[simp ↓] theorem fNil_s (ρ : DEnv) : fNil  ρ = (.ok [] ρ) := rfl
@[simp ↓] theorem fCons_s (fa : FE) (fr : FA) (ρ : DEnv) : fCons fa fr ρ = ((fa ρ).bind fun r ρ1 => (fr ρ1).bind fun rs ρ2 => .ok (r :: rs) ρ2) := rfl
@[simp ↓] theorem fOO_s (fo : FW) (ρ : DEnv) : fOO fo ρ = ((fo ρ).bind fun d ρ1 => .ok (.val d) ρ1) := rfl
@[simp ↓] theorem fLst_s (fa : FA) (ρ : DEnv) : fLst fa ρ = ((fa ρ).bind fun rs ρ1 => ob (escs ρ1 rs) fun p => if p.1.length ≤ 1000 then .ok (.lst p.1) p.2 else .no) := rfl
@[simp ↓] theorem fTup_s (fa : FA) (ρ : DEnv) : fTup fa ρ = ((fa ρ).bind fun rs ρ1 => ob (escs ρ1 rs) fun p => if p.1.length ≤ 1000 then .ok (.val (.tup p.1)) p.2 else .no) := rfl
@[simp ↓] theorem fCa_s (g : List D → Option D) (fa : FA) (ρ : DEnv) : fCa g fa ρ = ((fa ρ).bind fun rs ρ1 => ob (gets ρ1 rs) fun ds => ob (g ds) fun d => .ok (.val d) ρ1) := rfl
@[simp ↓] theorem fCaO_s (g : List D → Option D) (fa : FA) (ρ : DEnv) : fCaO g fa ρ = ((fa ρ).bind fun rs ρ1 => ob (gets ρ1 rs) fun ds => ob (g ds) fun d => .ok d ρ1) := rfl
@[simp ↓] theorem fSrtSet_s (fa : FE) (ρ : DEnv) : fSrtSet fa ρ = ((fa ρ).bind fun r ρ1 => ob (r.get ρ1) fun d => ob (srtSetF d) fun d => .ok d ρ1) := rfl
@[simp ↓] theorem fJoin_s (fo fe : FE) (ρ : DEnv) : fJoin fo fe ρ = ((fo ρ).bind fun r ρ1 => ob (r.get ρ1) fun d => match d with
    | .str a => (fe ρ1).bind fun r2 ρ2 => ob (r2.get ρ2) fun d => match d with
      | .lst ds => ob (strsOf ds) fun ys => if (ys.map (·.length)).sum + ys.length * a.length ≤ 16777216 then .ok (.val (.str (Txt.join a ys))) ρ2 else .no
      | _ => .no
    | _ => .no) := rfl
@[simp ↓] theorem fPN_s (ρ : DEnv) : fPN  ρ = (.ok none ρ) := rfl
@[simp ↓] theorem fPS_s (fa : FE) (ρ : DEnv) : fPS fa ρ = ((fa ρ).bind fun r ρ1 => ob (r.get ρ1) fun d => match d with
    | .int i => .ok (some i) ρ1
    | _ => .no) := rfl
@[simp ↓] theorem fSl_s (fa : FE) (fl fh : FP) (ρ : DEnv) : fSl fa fl fh ρ = ((fa ρ).bind fun r ρ1 => (fl ρ1).bind fun lo ρ2 => (fh ρ2).bind fun hi ρ3 => ob (r.get ρ3) fun d => ob (sliceD d lo hi) fun d => .ok (.val d) ρ3) := rfl
@[simp ↓] theorem fFld_s (Cs : List Addr) (f : Str) (fa : FE) (ρ : DEnv) : fFld Cs f fa ρ = ((fa ρ).bind fun r ρ1 => ob (r.get ρ1) fun d => ob (fldOf Cs f d) fun d => .ok (.val d) ρ1) := rfl
@[simp ↓] theorem isiD_s (g : D → Option Bool) (fa : FE) (ρ : DEnv) : isiD g fa ρ = ((fa ρ).bind fun r ρ1 => ob (r.get ρ1) fun d => ob (g d) fun b => .ok (.val (.bl b)) ρ1) := rfl
@[simp ↓] theorem fCall_s (F : FF) (ms : List Bool) (fa : FA) (ρ : DEnv) : fCall F ms fa ρ = ((fa ρ).bind fun rs ρ1 => callR F ms rs ρ1 fun d ρ3 => .ok (.val d) ρ3) := rfl
@[simp ↓] theorem fCallO_s (F : FF) (ms : List Bool) (fa : FA) (ρ : DEnv) : fCallO F ms fa ρ = ((fa ρ).bind fun rs ρ1 => callO F ms rs ρ1) := rfl
@[simp ↓] theorem fMeth_s (C : Addr) (m : Str) (F : FF) (ms : List Bool) (fo : FE) (fa : FA) (ρ : DEnv) : fMeth C m F ms fo fa ρ = ((fo ρ).bind fun r0 ρ1 => ob (r0.get ρ1) fun d => if insOf C m d = true then (fa ρ1).bind fun rs ρ2 => callR F ms (r0 :: rs) ρ2 fun d ρ3 => .ok (.val d) ρ3 else .no) := rfl
@[simp ↓] theorem fMethO_s (C : Addr) (m : Str) (F : FF) (ms : List Bool) (fo : FE) (fa : FA) (ρ : DEnv) : fMethO C m F ms fo fa ρ = ((fo ρ).bind fun r0 ρ1 => ob (r0.get ρ1) fun d => if insOf C m d = true then (fa ρ1).bind fun rs ρ2 => callO F ms (r0 :: rs) ρ2 else .no) := rfl
@[simp ↓] theorem fKw_s (F : FF) (ms : List Bool) (n nk : Nat) (is : List Nat) (fa fk : FA) (ρ : DEnv) : fKw F ms n nk is fa fk ρ = ((fa ρ).bind fun rs ρ1 => if rs.length = n then (fk ρ1).bind fun qs ρ2 => if qs.length = nk then callR F ms (pick is (rs ++ qs)) ρ2 fun d ρ3 => .ok (.val d) ρ3 else .no else .no) := rfl
@[simp ↓] theorem fMethKw_s (C : Addr) (m : Str) (F : FF) (ms : List Bool) (nk : Nat) (is : List Nat) (fo : FE) (fk : FA) (ρ : DEnv) : fMethKw C m F ms nk is fo fk ρ = ((fo ρ).bind fun r0 ρ1 => ob (r0.get ρ1) fun d => if insOf C m d = true then (fk ρ1).bind fun qs ρ2 => if qs.length = nk then callR F ms (pick is (r0 :: qs)) ρ2 fun d ρ3 => .ok (.val d) ρ3 else .no else .no) := rfl
@[simp ↓] theorem fProp_s (C : Addr) (F : FF) (fa : FE) (ρ : DEnv) : fProp C F fa ρ = ((fa ρ).bind fun r ρ1 => ob (esc ρ1 r) fun p => if isC C p.1 = true then ob (F [.fz p.1]).pure fun d => .ok (.val d) p.2 else .no) := rfl
@[simp ↓] theorem fMake_s (C : Addr) (F : FF) (fa : FA) (ρ : DEnv) : fMake C F fa ρ = ((fa ρ).bind fun rs ρ1 => ob (escs ρ1 rs) fun p => match (F (.bw (.ins C []) :: p.1.map .fz)).made with
    | .ok d' _ => .ok d' p.2
    | .ex c d _ => .ex c d p.2
    | .no => .no) := rfl
@[simp ↓] theorem fOwn_s (g : D → D → Option D) (C : Addr) (FL FR : FF) (fa fb : FE) (ρ : DEnv) : fOwn g C FL FR fa fb ρ = ((fa ρ).bind fun r1 ρ1 => (fb ρ1).bind fun r2 ρ2 => ob (r1.get ρ2) fun d1 => ob (r2.get ρ2) fun d2 =>
    if isC C d1 = true then (if (isC C d2 || isI d2) = true then callR FL [false, false] [r1, r2] ρ2 fun d ρ3 => .ok (.val d) ρ3 else .no)
    else if isC C d2 = true then (if isI d1 = true then callR FR [false, false] [r2, r1] ρ2 fun d ρ3 => .ok (.val d) ρ3 else .no)
    else ob (g d1 d2) fun d => .ok (.val d) ρ2) := rfl
@[simp ↓] theorem fInv_s (C : Addr) (F : FF) (fa : FE) (ρ : DEnv) : fInv C F fa ρ = ((fa ρ).bind fun r ρ1 => ob (r.get ρ1) fun d => if isC C d = true then callR F [false] [r] ρ1 fun d ρ3 => .ok (.val d) ρ3 else .no) := rfl
@[simp ↓] theorem fDict0_s (ρ : DEnv) : fDict0  ρ = (.ok (.dic []) ρ) := rfl
@[simp ↓] theorem fDict_s (ms : List (FE × FE)) (ρ : DEnv) : fDict ms ρ = ((fPairs ms ρ).bnd fun ps ρ1 => ob (keysD ρ1 (ps.map Prod.fst)) fun ks => ob (escs ρ1 (ps.map Prod.snd)) fun p => if ps.length ≤ 15 then .ok (.dic (mergeKD [] (ks.zip p.1))) p.2 else .no) := rfl
@[simp ↓] theorem fIter_s (fa : FE) (ρ : DEnv) : fIter fa ρ = ((fa ρ).bind fun r ρ1 => ob (esc ρ1 r) fun p => ob (itemsD p.1) fun ds => .ok ds p.2) := rfl
@[simp ↓] theorem fRng1_s (fa : FA) (ρ : DEnv) : fRng1 fa ρ = ((fa ρ).bind fun rs ρ1 => ob (gets ρ1 rs) fun ds => match ds with
    | [.int j] => if -(2 ^ 62) ≤ j ∧ j < 2 ^ 62 then .ok (rngD 0 j.toNat) ρ1 else .no
    | _ => .no) := rfl
@[simp ↓] theorem fRng2_s (fa : FA) (ρ : DEnv) : fRng2 fa ρ = ((fa ρ).bind fun rs ρ1 => ob (gets ρ1 rs) fun ds => match ds with
    | [.int i, .int j] => if -(2 ^ 62) ≤ i ∧ i < 2 ^ 62 ∧ -(2 ^ 62) ≤ j ∧ j < 2 ^ 62 then .ok (rngD i (j - i).toNat) ρ1 else .no
    | _ => .no) := rfl
@[simp ↓] theorem fEnum_s (fa : FA) (ρ : DEnv) : fEnum fa ρ = ((fa ρ).bind fun rs ρ1 => match rs with
    | [r] => ob (esc ρ1 r) fun p => match p.1 with
      | .lst ds => .ok (ds.zipIdx.map fun q => .tup [.int q.2, q.1]) p.2
      | _ => .no
    | _ => .no) := rfl
@[simp ↓] theorem fZip_s (fa : FA) (ρ : DEnv) : fZip fa ρ = ((fa ρ).bind fun rs ρ1 => match rs with
    | [r1, r2] => ob (esc ρ1 r1) fun p => ob (esc p.2 r2) fun q => match p.1, q.1 with
      | .lst xs, .lst ys => .ok ((xs.zip ys).map fun q => .tup [q.1, q.2]) q.2
      | _, _ => .no
    | _ => .no) := rfl
@[simp ↓] theorem fLc_s (fi : FI) (vs : List Nat) (g : FG) (t : FT) (m : FE) (ρ : DEnv) : fLc fi vs g t m ρ = ((fi ρ).bind fun ds ρ1 => lcL vs g t m ds [] ρ1) := rfl
@[simp ↓] theorem fYes_s (ρ : DEnv) : fYes  ρ = (.ok true ρ) := rfl
@[simp ↓] theorem fSkip_s (ρ : DEnv) : fSkip  ρ = (.nx ρ) := rfl
@[simp ↓] theorem fBrk_s (ρ : DEnv) : fBrk  ρ = (.bk ρ) := rfl
@[simp ↓] theorem fCnt_s (ρ : DEnv) : fCnt  ρ = (.ct ρ) := rfl
@[simp ↓] theorem fNever_s (ρ0 : DEnv) : fNever  ρ0 = (.no) := rfl
@[simp ↓] theorem fSeq_s (f g : FS) (ρ : DEnv) : fSeq f g ρ = ((f ρ).seq g) := rfl
@[simp ↓] theorem fIf_s (t : FT) (f g : FS) (ρ : DEnv) : fIf t f g ρ = ((t ρ).z fun c ρ1 => if c = true then f ρ1 else g ρ1) := rfl
@[simp ↓] theorem fDrop_s (fa : FE) (ρ : DEnv) : fDrop fa ρ = ((fa ρ).z fun _ ρ1 => .nx ρ1) := rfl
@[simp ↓] theorem fRet_s (fa : FE) (ρ : DEnv) : fRet fa ρ = ((fa ρ).z fun r ρ1 => oz (esc ρ1 r) fun p => .rt p.1 p.2) := rfl
@[simp ↓] theorem fRetN_s (ρ : DEnv) : fRetN  ρ = (.rt .non ρ) := rfl
@[simp ↓] theorem fRetO_s (fo : FW) (ρ : DEnv) : fRetO fo ρ = ((fo ρ).z fun d ρ1 => .ro d ρ1) := rfl
@[simp ↓] theorem fRetV_s (i : Nat) (ρ : DEnv) : fRetV i ρ = (match ρ[i]? with
    | some (some (.ow d)) => .ro d ρ
    | some (some (.fz d)) => .rt d ρ
    | _ => .no) := rfl
@[simp ↓] theorem fSet_s (fa : FE) (g : FG) (ρ : DEnv) : fSet fa g ρ = ((fa ρ).z fun r ρ1 => oz (esc ρ1 r) fun p => oz (g p.1 p.2) fun ρ2 => .nx ρ2) := rfl
@[simp ↓] theorem fSetO_s (i : Nat) (fo : FW) (ρ : DEnv) : fSetO i fo ρ = ((fo ρ).z fun d ρ1 => .nx (ρ1.set i (some (.ow d)))) := rfl
@[simp ↓] theorem fRaise_s (C : Addr) (fa : FE) (ρ : DEnv) : fRaise C fa ρ = ((fa ρ).z fun r ρ1 => oz (esc ρ1 r) fun p => .ex C p.1 p.2) := rfl
@[simp ↓] theorem fFor_s (fi : FI) (g : FG) (b : FS) (ρ : DEnv) : fFor fi g b ρ = ((fi ρ).z fun ds ρ1 => forL g b ds ρ1) := rfl
@[simp ↓] theorem fFldS_s (Cs : List Addr) (i : Nat) (f : Str) (fa : FE) (ρ : DEnv) : fFldS Cs i f fa ρ = ((fa ρ).z fun r ρ1 => oz (esc ρ1 r) fun p => oz (ownOf p.2[i]?) fun dv => match dv.d with
    | .ins C fs => if C ∈ Cs ∧ fs.length < 1000 then .nx (p.2.set i (some (dv.re (.ins C (putD f p.1 fs))))) else .no
    | _ => .no) := rfl
@[simp ↓] theorem fPut_s (i : Nat) (fk fv : FE) (ρ : DEnv) : fPut i fk fv ρ = ((fv ρ).z fun rv ρ1 => oz (esc ρ1 rv) fun p => oz (ownOf p.2[i]?) fun _ => (fk p.2).z fun rk ρ3 => oz (rk.get ρ3) fun k => oz (ownOf ρ3[i]?) fun dv => oz (putF' dv.d k p.1) fun o => .nx (ρ3.set i (some (dv.re o)))) := rfl
@[simp ↓] theorem fApp_s (i : Nat) (fa : FE) (ρ : DEnv) : fApp i fa ρ = (oz (ownOf ρ[i]?) fun dv => oz (lstOf dv.d) fun _ => (fa ρ).z fun r ρ1 => oz (esc ρ1 r) fun p => oz (ownOf p.2[i]?) fun dv => oz (lstOf dv.d) fun ds =>
    if ds.length < sizeLine then .nx (p.2.set i (some (dv.re (.lst (ds ++ [p.1]))))) else .no) := rfl
@[simp ↓] theorem fPar_s (is : List Nat) (fa : FA) (ρ : DEnv) : fPar is fa ρ = ((fa ρ).z fun rs ρ1 => oz (escs ρ1 rs) fun p => oz (parSet is p.1 p.2) fun ρ2 => .nx ρ2) := rfl
@[simp ↓] theorem fTry_s (fb : FS) (i j : Nat) (cls : List ((Addr → Option Bool) × (Addr → D → D))) (ρ : DEnv) : fTry fb i j cls ρ = (match fb ρ with
    | .ex C d ρ1 => if i < ρ1.length then tryL i j cls C d ρ1 else .no
    | z => z) := rfl
@[simp ↓] theorem fParO_s (is : List Nat) (f : FM) (ρ : DEnv) : fParO is f ρ = ((f ρ).z fun ms ρ1 => oz (mescs ρ1 ms) fun p => if p.1.length = is.length then .nx (setsM is p.1 p.2) else .no) := rfl
@[simp ↓] theorem bind_s (x : R α) (k : α → DEnv → R β) : x.bind k = (match x with
  | .ok a ρ => k a ρ
  | .ex C d ρ => .ex C d ρ
  | .no => .no) := rfl
@[simp ↓] theorem bnd_s (x : R α) (k : α → DEnv → R β) : x.bnd k = (match x with
  | .ok a ρ => k a ρ
  | _ => .no) := rfl
@[simp ↓] theorem z_s (x : R α) (k : α → DEnv → Z) : x.z k = (match x with
  | .ok a ρ => k a ρ
  | .ex C d ρ => .ex C d ρ
  | .no => .no) := rfl
@[simp ↓] theorem ob_s (o : Option α) (k : α → R β) : ob o k = (match o with
  | some a => k a
  | none => .no) := rfl
@[simp ↓] theorem oz_s (o : Option α) (k : α → Z) : oz o k = (match o with
  | some a => k a
  | none => .no) := rfl
@[simp ↓] theorem seq_s (z : Z) (f : FS) : z.seq f = (match z with
  | .nx ρ => f ρ
  | z => z) := rfl
@[simp] theorem forL_nil (g : FG) (b : FS) (ρ : DEnv) : forL g b [] ρ = .nx ρ := rfl
@[simp ↓] theorem forL_cons (g : FG) (b : FS) (d : D) (r : List D) (ρ : DEnv) : forL g b (d :: r) ρ = (oz (g d ρ) fun ρ1 => match b ρ1 with
    | .nx ρ2 => forL g b r ρ2
    | .ct ρ2 => forL g b r ρ2
    | .bk ρ2 => .nx ρ2
    | z => z) := rfl
@[simp] theorem lcL_nil (vs : List Nat) (g : FG) (t : FT) (m : FE) (acc : List D) (ρ : DEnv) : lcL vs g t m [] acc ρ = .ok (.lst acc) ρ := rfl
@[simp ↓] theorem lcL_cons (vs : List Nat) (g : FG) (t : FT) (m : FE) (d : D) (r acc : List D) (ρ : DEnv) : lcL vs g t m (d :: r) acc ρ = (ob (g d (wipeD ρ vs)) fun ρ1 => (t ρ1).bnd fun c ρ2 => if c = true then (m ρ2).bnd fun rf ρ3 => ob (esc ρ3 rf) fun p => if acc.length < sizeLine then lcL vs g t m r (acc ++ [p.1]) (backD ρ p.2 vs) else .no
    else lcL vs g t m r acc (backD ρ ρ2 vs)) := rfl
/-! the slots -/
@[simp] theorem get_val (ρ : DEnv) (d : D) : Rf.get ρ (.val d) = some d := rfl
@[simp] theorem get_sl (ρ : DEnv) (i : Nat) : Rf.get ρ (.sl i) = slotD ρ[i]? := rfl
@[simp] theorem slotD_s (dv : DV) : slotD (some (some dv)) = some dv.d := rfl
@[simp] theorem dvd_fz (d : D) : DV.d (.fz d) = d := rfl
@[simp] theorem dvd_ow (d : D) : DV.d (.ow d) = d := rfl
@[simp] theorem dvd_bw (d : D) : DV.d (.bw d) = d := rfl
@[simp] theorem own_fz (d : D) : DV.owned (.fz d) = false := rfl
@[simp] theorem own_ow (d : D) : DV.owned (.ow d) = true := rfl
@[simp] theorem own_bw (d : D) : DV.owned (.bw d) = true := rfl
@[simp] theorem re_ow (d e : D) : DV.re (.ow d) e = .ow e := rfl
@[simp] theorem re_bw (d e : D) : DV.re (.bw d) e = .bw e := rfl
@[simp] theorem ownOf_ow (d : D) : ownOf (some (some (.ow d))) = some (.ow d) := rfl
@[simp] theorem ownOf_bw (d : D) : ownOf (some (some (.bw d))) = some (.bw d) := rfl
@[simp] theorem ownOf_fz (d : D) : ownOf (some (some (.fz d))) = none := rfl
@[simp] theorem lstOf_lst (ds : List D) : lstOf (.lst ds) = some ds := rfl
@[simp] theorem esc_val (ρ : DEnv) (d : D) : esc ρ (.val d) = some (d, ρ) := rfl
@[simp ↓] theorem esc_sl (ρ : DEnv) (i : Nat) : esc ρ (.sl i) = (match ρ[i]? with
    | some (some (.fz d)) => some (d, ρ)
    | some (some (.ow d)) => some (d, ρ.set i (some (.fz d)))
    | _ => none) := rfl
@[simp] theorem escs_nil (ρ : DEnv) : escs ρ [] = some ([], ρ) := rfl
@[simp ↓] theorem escs_cons (ρ : DEnv) (r : Rf) (rs : List Rf) : escs ρ (r :: rs) = (match esc ρ r with
    | some p => (match escs p.2 rs with
      | some q => some (p.1 :: q.1, q.2)
      | none => none)
    | none => none) := by
  show ((esc ρ r).bind fun p => (escs p.2 rs).map fun q => (p.1 :: q.1, q.2)) = _
  cases esc ρ r with
  | none => rfl
  | some p =>
    dsimp only [Option.bind_some]
    cases escs p.2 rs <;> rfl
@[simp] theorem gets_nil (ρ : DEnv) : gets ρ [] = some [] := rfl
@[simp ↓] theorem gets_cons (ρ : DEnv) (r : Rf) (rs : List Rf) : gets ρ (r :: rs) = (match r.get ρ with
    | some d => (match gets ρ rs with
      | some ds => some (d :: ds)
      | none => none)
    | none => none) := by
  show ((r.get ρ).bind fun d => (gets ρ rs).map fun ds => d :: ds) = _
  cases r.get ρ with
  | none => rfl
  | some d =>
    dsimp only [Option.bind_some]
    cases gets ρ rs <;> rfl
@[simp] theorem hand_nil (ρ : DEnv) : hand [] ρ [] = some ([], ρ, []) := rfl
@[simp ↓] theorem hand_f (ms : List Bool) (ρ : DEnv) (r : Rf) (rs : List Rf) : hand (false :: ms) ρ (r :: rs) = (match esc ρ r with
    | some p => (match hand ms p.2 rs with
      | some q => some (.fz p.1 :: q.1, q.2.1, q.2.2)
      | none => none)
    | none => none) := by
  show ((esc ρ r).bind fun p => (hand ms p.2 rs).map fun q => (DV.fz p.1 :: q.1, q.2.1, q.2.2)) = _
  cases esc ρ r with
  | none => rfl
  | some p =>
    dsimp only [Option.bind_some]
    cases hand ms p.2 rs <;> rfl
@[simp ↓] theorem hand_t (ms : List Bool) (ρ : DEnv) (i : Nat) (rs : List Rf) : hand (true :: ms) ρ (.sl i :: rs) = (match hand ms ρ rs with
    | some q => if i ∈ q.2.2 then none else (match ownedD q.2.1[i]? with
      | some d => some (.bw d :: q.1, q.2.1, i :: q.2.2)
      | none => none)
    | none => none) := by
  show ((hand ms ρ rs).bind fun q => if i ∈ q.2.2 then none else (ownedD q.2.1[i]?).map fun d => (DV.bw d :: q.1, q.2.1, i :: q.2.2)) = _
  cases hand ms ρ rs with
  | none => rfl
  | some q =>
    dsimp only [Option.bind_some]
    cases ownedD q.2.1[i]? <;> rfl
@[simp] theorem ownedD_ow (d : D) : ownedD (some (some (.ow d))) = some d := rfl
@[simp] theorem ownedD_bw (d : D) : ownedD (some (some (.bw d))) = some d := rfl
@[simp] theorem give_nil (ρ : DEnv) : giveBack ρ [] [] = some ρ := rfl
@[simp ↓] theorem give_cons (ρ : DEnv) (i : Nat) (is : List Nat) (d : D) (ds : List D) : giveBack ρ (i :: is) (d :: ds) = (match ρ[i]? with
    | some (some dv) => giveBack (ρ.set i (some (dv.re d))) is ds
    | _ => none) := rfl
@[simp] theorem keysD_nil (ρ : DEnv) : keysD ρ [] = some [] := rfl
@[simp] theorem keysD_cons (ρ : DEnv) (r : Rf) (rs : List Rf) : keysD ρ (r :: rs) = (r.get ρ).bind fun d => (kD d).bind fun k => (keysD ρ rs).map fun ks => k :: ks := rfl
@[simp] theorem kD_int (i : Int) : kD (.int i) = some (.inl i) := rfl
@[simp] theorem kD_str (x : Str) : kD (.str x) = some (.inr x) := rfl
@[simp] theorem fPairs_nil (ρ : DEnv) : fPairs [] ρ = .ok [] ρ := rfl
@[simp ↓] theorem fPairs_cons (a b : FE) (r : List (FE × FE)) (ρ : DEnv) : fPairs ((a, b) :: r) ρ = ((a ρ).bind fun x ρ1 => (b ρ1).bind fun y ρ2 => (fPairs r ρ2).bind fun ps ρ3 => .ok ((x, y) :: ps) ρ3) := rfl
@[simp ↓] theorem callR_s (F : FF) (ms : List Bool) (rs : List Rf) (ρ : DEnv) (k : D → DEnv → R β) : callR F ms rs ρ k = (match hand ms ρ rs with
  | some p => (match F p.1 with
    | .rt d ns => (match giveBack p.2.1 p.2.2 ns with
      | some ρ3 => k d ρ3
      | none => .no)
    | .ro d ns => (match giveBack p.2.1 p.2.2 ns with
      | some ρ3 => k d ρ3
      | none => .no)
    | .ex C d ns => (match giveBack p.2.1 p.2.2 ns with
      | some ρ3 => .ex C d ρ3
      | none => .no)
    | .no => .no)
  | none => .no) := by
  unfold callR
  cases hand ms ρ rs with
  | none => rfl
  | some p =>
    dsimp only [ob_some]
    cases F p.1 with
    | rt d ns => dsimp only; cases giveBack p.2.1 p.2.2 ns <;> rfl
    | ro d ns => dsimp only; cases giveBack p.2.1 p.2.2 ns <;> rfl
    | ex C d ns => dsimp only; cases giveBack p.2.1 p.2.2 ns <;> rfl
    | no => rfl
@[simp ↓] theorem callO_s (F : FF) (ms : List Bool) (rs : List Rf) (ρ : DEnv) : callO F ms rs ρ = (match hand ms ρ rs with
  | some p => (match F p.1 with
    | .ro d ns => (match giveBack p.2.1 p.2.2 ns with
      | some ρ3 => .ok d ρ3
      | none => .no)
    | .ex C d ns => (match giveBack p.2.1 p.2.2 ns with
      | some ρ3 => .ex C d ρ3
      | none => .no)
    | _ => .no)
  | none => .no) := by
  unfold callO
  cases hand ms ρ rs with
  | none => rfl
  | some p =>
    dsimp only [ob_some]
    cases F p.1 with
    | rt d ns => rfl
    | ro d ns => dsimp only; cases giveBack p.2.1 p.2.2 ns <;> rfl
    | ex C d ns => dsimp only; cases giveBack p.2.1 p.2.2 ns <;> rfl
    | no => rfl
@[simp] theorem fBl_s (b : Bool) (k : Bool → R β) : fBl (.bl b) k = k b := rfl
@[simp] theorem wipe_nil (ρ : DEnv) : wipeD ρ [] = ρ := rfl
@[simp] theorem wipe_cons (ρ : DEnv) (v : Nat) (vs : List Nat) : wipeD ρ (v :: vs) = (wipeD ρ vs).set v none := rfl
@[simp] theorem back_nil (ρ0 ρ : DEnv) : backD ρ0 ρ [] = ρ := rfl
@[simp] theorem back_cons (ρ0 ρ : DEnv) (v : Nat) (vs : List Nat) : backD ρ0 ρ (v :: vs) = (backD ρ0 ρ vs).set v (keepFz ρ0[v]?) := rfl
@[simp] theorem keep_fz (d : D) : keepFz (some (some (.fz d))) = some (.fz d) := rfl
@[simp] theorem keep_ow (d : D) : keepFz (some (some (.ow d))) = none := rfl
@[simp] theorem keep_bw (d : D) : keepFz (some (some (.bw d))) = none := rfl
@[simp] theorem keep_no : keepFz (some none) = none := rfl
@[simp] theorem news_nil (ρ : DEnv) : newsD [] ρ = some [] := rfl
@[simp] theorem news_fz' (d : D) (as : List DV) (x : Option DV) (ρ : DEnv) : newsD (.fz d :: as) (x :: ρ) = newsD as ρ := rfl
@[simp] theorem news_bw' (d e : D) (as : List DV) (ρ : DEnv) : newsD (.bw d :: as) (some (.bw e) :: ρ) = (newsD as ρ).map (e :: ·) := rfl
@[simp] theorem gS1_s (i : Nat) (d : D) (ρ : DEnv) : gS1 i d ρ = some (ρ.set i (some (.fz d))) := rfl
@[simp] theorem gN0_s (ρ : DEnv) : gN0 [] ρ = some ρ := rfl
@[simp ↓] theorem gC1_s (g : FG) (h : FGs) (d : D) (r : List D) (ρ : DEnv) : gC1 g h (d :: r) ρ = (match g d ρ with
  | some ρ1 => h r ρ1
  | none => none) := by
  show (g d ρ).bind _ = _
  cases g d ρ <;> rfl
@[simp ↓] theorem gT1_s (n : Nat) (h : FGs) (ds : List D) (ρ : DEnv) : gT1 n h (.tup ds) ρ = (if ds.length = n then h ds ρ else none) := rfl
@[simp] theorem parSet_nil (ρ : DEnv) : parSet [] [] ρ = some ρ := rfl
@[simp] theorem parSet_cons (i : Nat) (is : List Nat) (d : D) (ds : List D) (ρ : DEnv) : parSet (i :: is) (d :: ds) ρ = parSet is ds (ρ.set i (some (.fz d))) := rfl
@[simp ↓] theorem fin_s (as : List DV) (z : Z) : z.fin as = (match z with
  | .nx ρ => (match newsD as ρ with
    | some ns => .rt .non ns
    | none => .no)
  | .rt d ρ => (match newsD as ρ with
    | some ns => .rt d ns
    | none => .no)
  | .ro d ρ => (match newsD as ρ with
    | some ns => .ro d ns
    | none => .no)
  | .ex C d ρ => (match newsD as ρ with
    | some ns => .ex C d ns
    | none => .no)
  | _ => .no) := by cases z <;> rfl
@[simp ↓] theorem runF_s (n m : Nat) (b : FS) (as : List DV) : runF n m b as = (if as.length = n then (b (as.map some ++ List.replicate m none)).fin as else .no) := rfl
/-! written texts -/
@[simp] theorem ofString_inj (a b : String) : (Str.ofString a = Str.ofString b) ↔ a = b := by
  constructor
  · intro h
    have h1 := congrArg (fun s : Str => s.cps.toList) h
    simp only [Str.ofString_eq_toList] at h1
    have h2 : a.toList = b.toList := by
      have inj : ∀ (x y : List Char), x.map Char.toNat = y.map Char.toNat → x = y := by
        intro x
        induction x with
        | nil => intro y h; cases y with
          | nil => rfl
          | cons _ _ => simp at h
        | cons c r ih =>
          intro y h
          cases y with
          | nil => simp at h
          | cons d s =>
            simp only [List.map_cons, List.cons.injEq] at h
            rw [ih s h.2, Char.toNat_inj.mp h.1]
      exact inj _ _ (by simpa using h1)
    exact String.toList_inj.mp h2
  · intro h; rw [h]
@[simp] theorem ofString_beq (a b : String) : (Str.ofString a == Str.ofString b) = decide (a = b) := by
  by_cases h : a = b
  · subst h; simp
  · have h' : ¬ Str.ofString a = Str.ofString b := fun z => h ((ofString_inj a b).mp z)
    simp [h]
/-! operators -/
@[simp] theorem add_int (i j : Int) : addD (.int i) (.int j) = some (.int (i + j)) := rfl
@[simp] theorem add_lst (x y : List D) : addD (.lst x) (.lst y) = (if x.length + y.length ≤ sizeLine then some (.lst (x ++ y)) else none) := rfl
@[simp] theorem add_tup (x y : List D) : addD (.tup x) (.tup y) = (if x.length + y.length ≤ sizeLine then some (.tup (x ++ y)) else none) := rfl
@[simp] theorem add_str (x y : Str) : addD (.str x) (.str y) = (if x.length + y.length ≤ sizeLine then some (.str (x ++ y)) else none) := rfl
@[simp] theorem sub_int (i j : Int) : subD (.int i) (.int j) = some (.int (i - j)) := rfl
@[simp] theorem mul_int (i j : Int) : mulD (.int i) (.int j) = (if mulOk i j = true then some (.int (i * j)) else none) := rfl
@[simp] theorem div_int (i j : Int) : divD (.int i) (.int j) = (if 0 < j ∧ j.natAbs.log2 < 9000 then some (.int (i / j)) else none) := rfl
@[simp] theorem mod_int (i j : Int) : modD (.int i) (.int j) = (if 0 < j then some (.int (i % j)) else none) := rfl
@[simp ↓] theorem fmNil_s (ρ : DEnv) : fmNil ρ = .ok [] ρ := rfl
@[simp ↓] theorem fmE_s (fa : FE) (fr : FM) (ρ : DEnv) : fmE fa fr ρ = ((fa ρ).bind fun r ρ1 => (fr ρ1).bind fun rs ρ2 => .ok (.inl r :: rs) ρ2) := rfl
@[simp ↓] theorem fmO_s (fo : FW) (fr : FM) (ρ : DEnv) : fmO fo fr ρ = ((fo ρ).bind fun d ρ1 => (fr ρ1).bind fun rs ρ2 => .ok (.inr d :: rs) ρ2) := rfl
@[simp] theorem mescs_nil (ρ : DEnv) : mescs ρ [] = some ([], ρ) := rfl
@[simp] theorem mescs_inl (ρ : DEnv) (r : Rf) (ms : List Mx) : mescs ρ (.inl r :: ms) = (esc ρ r).bind fun p => (mescs p.2 ms).map fun q => (.fz p.1 :: q.1, q.2) := rfl
@[simp] theorem mescs_inr (ρ : DEnv) (d : D) (ms : List Mx) : mescs ρ (.inr d :: ms) = (mescs ρ ms).map fun q => (.ow d :: q.1, q.2) := rfl
@[simp] theorem setsM_nil (dvs : List DV) (ρ : DEnv) : setsM [] dvs ρ = ρ := rfl
@[simp] theorem setsM_cons (i : Nat) (is : List Nat) (dv : DV) (dvs : List DV) (ρ : DEnv) : setsM (i :: is) (dv :: dvs) ρ = setsM is dvs (ρ.set i (some dv)) := rfl
@[simp] theorem lt_int (i j : Int) : ltD (.int i) (.int j) = some (.bl (decide (i < j))) := rfl
@[simp] theorem gt_int (i j : Int) : gtD (.int i) (.int j) = some (.bl (decide (j < i))) := rfl
@[simp] theorem le_int (i j : Int) : leD (.int i) (.int j) = some (.bl (decide (i ≤ j))) := rfl
@[simp] theorem ge_int (i j : Int) : geD (.int i) (.int j) = some (.bl (decide (j ≤ i))) := rfl
@[simp] theorem lt_str (i j : Str) : ltD (.str i) (.str j) = some (.bl (decide (i.cps.toList < j.cps.toList))) := rfl
@[simp] theorem gt_str (i j : Str) : gtD (.str i) (.str j) = some (.bl (decide (j.cps.toList < i.cps.toList))) := rfl
@[simp] theorem eq_str (i j : Str) : eqD (.str i) (.str j) = some (.bl (decide (i = j))) := rfl
@[simp] theorem ne_str (i j : Str) : neD (.str i) (.str j) = some (.bl (!decide (i = j))) := rfl
@[simp] theorem plain_int (n : Nat) (i : Int) : plain n (.int i) = true := by cases n <;> simp [plain]
@[simp] theorem plain_bl (n : Nat) (i : Bool) : plain n (.bl i) = true := by cases n <;> simp [plain]
@[simp] theorem plain_non (n : Nat) : plain n .non = true := by cases n <;> simp [plain]
theorem eqv_int (i j : Int) : PyData.eqv (py (.int i)) (py (.int j)) = decide (i = j) := by
  simp only [py, PyData.eqv]
  by_cases h : i = j <;> simp [h]
@[simp] theorem eq_int (i j : Int) : eqD (.int i) (.int j) = some (.bl (decide (i = j))) := by
  show (if plain 64 (.int i) = true ∧ plain 64 (.int j) = true then some (D.bl (PyData.eqv (py (.int i)) (py (.int j)))) else none) = _
  rw [eqv_int]; simp
@[simp] theorem ne_int (i j : Int) : neD (.int i) (.int j) = some (.bl (!decide (i = j))) := by
  show (if plain 64 (.int i) = true ∧ plain 64 (.int j) = true then some (D.bl (!PyData.eqv (py (.int i)) (py (.int j)))) else none) = _
  rw [eqv_int]; simp
@[simp] theorem is_non (a : D) : isN a .non = some (.bl a.isNon) := rfl
@[simp] theorem isnt_non (a : D) : isntN a .non = some (.bl (!a.isNon)) := rfl
@[simp] theorem len_lst (xs : List D) : lenD [.lst xs] = some (.int xs.length) := rfl
@[simp] theorem len_tup (xs : List D) : lenD [.tup xs] = some (.int xs.length) := rfl
@[simp] theorem len_str (z : Str) : lenD [.str z] = (if z.length ≤ sizeLine then some (.int z.length) else none) := rfl
@[simp] theorem int_int (i : Int) : intD [.int i] = some (.int i) := rfl
@[simp] theorem int_bl (b : Bool) : intD [.bl b] = some (.int (if b then 1 else 0)) := rfl
@[simp] theorem i1_int (f : Int → Int) (i : Int) : i1D f [.int i] = some (.int (f i)) := rfl
@[simp] theorem i2_int (f : Int → Int → Int) (i j : Int) : i2D f [.int i, .int j] = some (.int (f i j)) := rfl
@[simp] theorem any_lst (ds : List D) : anyF [.lst ds] = (blsOf ds).map fun bs => .bl (bs.any id) := rfl
@[simp] theorem all_lst (ds : List D) : allF [.lst ds] = (blsOf ds).map fun bs => .bl (bs.all id) := rfl
@[simp] theorem sum_lst (ds : List D) : sumF [.lst ds] = (intsOf ds).map fun ns => .int ns.sum := rfl
@[simp] theorem list_lst (xs : List D) : listF [.lst xs] = some (.lst xs) := rfl
@[simp] theorem list_tup (xs : List D) : listF [.tup xs] = some (.lst xs) := rfl
@[simp] theorem tuple_lst (xs : List D) : tupleF [.lst xs] = some (.tup xs) := rfl
@[simp] theorem tuple_tup (xs : List D) : tupleF [.tup xs] = some (.tup xs) := rfl
@[simp] theorem item_lst (ds : List D) (i : Int) : itemD (.lst ds) (.int i) = L2.atI ds i := rfl
@[simp] theorem item_tup (ds : List D) (i : Int) : itemD (.tup ds) (.int i) = L2.atI ds i := rfl
@[simp] theorem item_dic_s (kvs : List (Key × D)) (x : Str) : itemD (.dic kvs) (.str x) = valD kvs (.inr x) := rfl
@[simp] theorem items_lst (ds : List D) : itemsD (.lst ds) = some ds := rfl
@[simp] theorem items_tup (ds : List D) : itemsD (.tup ds) = some ds := rfl
@[simp] theorem items_str (z : Str) : itemsD (.str z) = some (signs z) := rfl
@[simp] theorem slice_lst (ds : List D) (lo hi : Option Int) : sliceD (.lst ds) lo hi = some (.lst (cutD ds lo hi)) := rfl
@[simp] theorem slice_tup (ds : List D) (lo hi : Option Int) : sliceD (.tup ds) lo hi = some (.tup (cutD ds lo hi)) := rfl
@[simp] theorem slice_str (z : Str) (lo hi : Option Int) : sliceD (.str z) lo hi = (if z.length ≤ sizeLine then some (.str (cutS z lo hi)) else none) := rfl
@[simp] theorem fld_ins (Cs : List Addr) (f : Str) (C : Addr) (fs : List (Str × D)) : fldOf Cs f (.ins C fs) = (if C ∈ Cs then fs.lookup f else none) := rfl
@[simp] theorem isOwn_ins (C : Addr) (no : List Addr) (C' : Addr) (fs : List (Str × D)) : isOwn C no (.ins C' fs) = (if C' = C then some true else if C' ∈ no then some false else none) := rfl
@[simp] theorem isOwn_int (C : Addr) (no : List Addr) (i : Int) : isOwn C no (.int i) = some false := rfl
@[simp] theorem isOwn_str (C : Addr) (no : List Addr) (i : Str) : isOwn C no (.str i) = some false := rfl
@[simp] theorem isOwn_bl (C : Addr) (no : List Addr) (i : Bool) : isOwn C no (.bl i) = some false := rfl
@[simp] theorem isOwn_non (C : Addr) (no : List Addr) : isOwn C no .non = some false := rfl
@[simp] theorem isOwn_lst (C : Addr) (no : List Addr) (i : List D) : isOwn C no (.lst i) = some false := rfl
@[simp] theorem isOwn_tup (C : Addr) (no : List Addr) (i : List D) : isOwn C no (.tup i) = some false := rfl
@[simp] theorem isOwn_dic (C : Addr) (no : List Addr) (i : List (Key × D)) : isOwn C no (.dic i) = some false := rfl
@[simp] theorem insOf_ins (C : Addr) (m : Str) (C' : Addr) (fs : List (Str × D)) : insOf C m (.ins C' fs) = decide (C' = C ∧ fs.lookup m = none) := rfl
@[simp] theorem isC_ins' (C C' : Addr) (fs : List (Str × D)) : isC C (.ins C' fs) = (C' == C) := rfl
@[simp] theorem isC_int (C : Addr) (i : Int) : isC C (.int i) = false := rfl
@[simp] theorem isC_bl (C : Addr) (i : Bool) : isC C (.bl i) = false := rfl
@[simp] theorem isC_str (C : Addr) (i : Str) : isC C (.str i) = false := rfl
@[simp] theorem isC_lst (C : Addr) (i : List D) : isC C (.lst i) = false := rfl
@[simp] theorem isC_tup (C : Addr) (i : List D) : isC C (.tup i) = false := rfl
@[simp] theorem isI_int' (i : Int) : isI (.int i) = true := rfl
@[simp] theorem isI_ins (C : Addr) (fs : List (Str × D)) : isI (.ins C fs) = false := rfl
@[simp] theorem pure_rt (d : D) : FR.pure (.rt d []) = some d := rfl
@[simp] theorem pure_ro (d : D) : FR.pure (.ro d []) = some d := rfl
@[simp] theorem made_rt (d : D) : FR.made (.rt .non [d]) = .ok d [] := rfl
@[simp] theorem made_ex (C : Addr) (d : D) (ns : List D) : FR.made (.ex C d ns) = .ex C d [] := rfl
@[simp] theorem put_lst (ds : List D) (k : Int) (v : D) : putF' (.lst ds) (.int k) v = (ixN ds.length k).map fun j => .lst (ds.set j v) := rfl
@[simp] theorem put_dic (kvs : List (Key × D)) (x : Str) (v : D) : putF' (.dic kvs) (.str x) v = (if kvs.length < sizeLine then some (.dic (putKD kvs (.inr x) v)) else none) := rfl
@[simp] theorem mulOk_lit_l (i j : Int) (h : Builtin.Int.intBits i ≤ 64) : mulOk i j = true := by
  have h' : ¬ (Builtin.Int.intBits i > shortFactorBits) := Nat.not_lt.mpr h
  unfold mulOk
  rw [decide_eq_false h']
  rfl
end
end DL
/-! FC: loops, comprehensions, sorted texts, shown texts: laws of the functions alone. -/
namespace DL
open PySem L2
/-- a loop all of whose turns go on -/
theorem forL_nx {g : FG} {b : FS} {ds : List D} {ρ : DEnv} (I : Nat → DEnv → Prop) (h0 : I 0 ρ)
    (step : ∀ (i : Nat) (d : D) (ρ : DEnv), ds[i]? = some d → I i ρ → ∃ ρ1 ρ', g d ρ = some ρ1 ∧ (b ρ1 = .nx ρ' ∨ b ρ1 = .ct ρ') ∧ I (i + 1) ρ') : ∃ ρ', forL g b ds ρ = .nx ρ' ∧ I ds.length ρ' := by
  have key : ∀ (r : List D) (i : Nat) (ρ : DEnv), r = ds.drop i → i ≤ ds.length → I i ρ → ∃ ρ', forL g b r ρ = .nx ρ' ∧ I ds.length ρ' := by
    intro r
    induction r with
    | nil =>
      intro i ρ e hi hI
      have := congrArg List.length e
      simp at this
      have : i = ds.length := by omega
      subst this
      exact ⟨ρ, rfl, hI⟩
    | cons d r ih =>
      intro i ρ e hi hI
      have lt : i < ds.length := by
        have := congrArg List.length e
        simp at this
        omega
      rw [List.drop_eq_getElem_cons lt] at e
      injection e with e1 e2
      obtain ⟨ρ1, ρ', h1, h2, h3⟩ := step i d ρ (by rw [List.getElem?_eq_getElem lt, ← e1]) hI
      obtain ⟨ρ2, h4, h5⟩ := ih (i + 1) ρ' e2 lt h3
      refine ⟨ρ2, ?_, h5⟩
      show oz (g d ρ) _ = _
      rw [h1, oz_some]
      rcases h2 with h2 | h2 <;> rw [h2] <;> exact h4
  exact key ds 0 ρ (by simp) (Nat.zero_le _) h0
/-- a comprehension without a test whose turns keep I -/
theorem lcL_nx {vs : List Nat} {g : FG} {m : FE} {ds : List D} {ρ : DEnv} (I : Nat → List D → DEnv → Prop) (hl : ds.length ≤ sizeLine) (h0 : I 0 [] ρ)
    (step : ∀ (i : Nat) (d : D) (acc : List D) (ρ : DEnv), ds[i]? = some d → I i acc ρ → ∃ ρ1 rf ρ3 e ρ4, g d (wipeD ρ vs) = some ρ1 ∧ m ρ1 = .ok rf ρ3 ∧ esc ρ3 rf = some (e, ρ4) ∧ I (i + 1) (acc ++ [e]) (backD ρ ρ4 vs)) :
    ∃ acc ρ', lcL vs g fYes m ds [] ρ = .ok (.lst acc) ρ' ∧ acc.length = ds.length ∧ I ds.length acc ρ' := by
  have key : ∀ (r : List D) (i : Nat) (acc : List D) (ρ : DEnv), r = ds.drop i → i ≤ ds.length → acc.length = i → I i acc ρ → ∃ acc' ρ', lcL vs g fYes m r acc ρ = .ok (.lst acc') ρ' ∧ acc'.length = ds.length ∧ I ds.length acc' ρ' := by
    intro r
    induction r with
    | nil =>
      intro i acc ρ e hi ha hI
      have := congrArg List.length e
      simp at this
      have : i = ds.length := by omega
      subst this
      exact ⟨acc, ρ, rfl, ha, hI⟩
    | cons d r ih =>
      intro i acc ρ e hi ha hI
      have lt : i < ds.length := by
        have := congrArg List.length e
        simp at this
        omega
      rw [List.drop_eq_getElem_cons lt] at e
      injection e with e1 e2
      obtain ⟨ρ1, rf, ρ3, x, ρ4, h1, h2, h3, h4⟩ := step i d acc ρ (by rw [List.getElem?_eq_getElem lt, ← e1]) hI
      obtain ⟨acc', ρ', h5, h6, h7⟩ := ih (i + 1) (acc ++ [x]) _ e2 lt (by simp [ha]) h4
      refine ⟨acc', ρ', ?_, h6, h7⟩
      rw [lcL_cons, h1, ob_some, show fYes ρ1 = R.ok true ρ1 from rfl, bnd_ok, if_pos rfl, h2, bnd_ok, h3, ob_some, if_pos (by omega)]
      exact h5
  exact key ds 0 [] ρ (by simp) (Nat.zero_le _) rfl h0
/-- .. each item by itself, the slots kept -/
theorem lcL_map {α : Type} {vs : List Nat} {g : FG} {m : FE} {ρ : DEnv} (xs : List α) (h f : α → D) (hl : xs.length ≤ sizeLine)
    (step : ∀ x ∈ xs, ∃ ρ1 rf ρ3 ρ4, g (h x) (wipeD ρ vs) = some ρ1 ∧ m ρ1 = .ok rf ρ3 ∧ esc ρ3 rf = some (f x, ρ4) ∧ backD ρ ρ4 vs = ρ) :
    lcL vs g fYes m (xs.map h) [] ρ = .ok (.lst (xs.map f)) ρ := by
  have key : ∀ (ys : List α) (acc : List D), (∀ y ∈ ys, y ∈ xs) → acc.length + ys.length ≤ xs.length → lcL vs g fYes m (ys.map h) acc ρ = .ok (.lst (acc ++ ys.map f)) ρ := by
    intro ys
    induction ys with
    | nil => intro acc _ _; simp
    | cons y ys ih =>
      intro acc hm hle
      obtain ⟨ρ1, rf, ρ3, ρ4, h1, h2, h3, h4⟩ := step y (hm y List.mem_cons_self)
      simp only [List.length_cons] at hle
      rw [List.map_cons, lcL_cons, h1, ob_some, show fYes ρ1 = R.ok true ρ1 from rfl, bnd_ok, if_pos rfl, h2, bnd_ok, h3, ob_some, if_pos (by omega)]
      dsimp only
      rw [h4, ih (acc ++ [f y]) (fun z hz => hm z (List.mem_cons_of_mem _ hz)) (by simp; omega)]
      simp
  simpa using key xs [] (fun _ h => h) (by simp)
/-- .. with a test -/
theorem lcL_filter {α : Type} {vs : List Nat} {g : FG} {t : FT} {m : FE} {ρ : DEnv} (xs : List α) (h f : α → D) (p : α → Bool) (hl : xs.length ≤ sizeLine)
    (step : ∀ x ∈ xs, ∃ ρ1 ρ2, g (h x) (wipeD ρ vs) = some ρ1 ∧ t ρ1 = .ok (p x) ρ2 ∧ (p x = true → ∃ rf ρ3 ρ4, m ρ2 = .ok rf ρ3 ∧ esc ρ3 rf = some (f x, ρ4) ∧ backD ρ ρ4 vs = ρ) ∧ (p x = false → backD ρ ρ2 vs = ρ)) :
    lcL vs g t m (xs.map h) [] ρ = .ok (.lst ((xs.filter p).map f)) ρ := by
  have key : ∀ (ys : List α) (acc : List D), (∀ y ∈ ys, y ∈ xs) → acc.length + ys.length ≤ xs.length → lcL vs g t m (ys.map h) acc ρ = .ok (.lst (acc ++ (ys.filter p).map f)) ρ := by
    intro ys
    induction ys with
    | nil => intro acc _ _; simp
    | cons y ys ih =>
      intro acc hm hle
      obtain ⟨ρ1, ρ2, h1, h2, h3, h4⟩ := step y (hm y List.mem_cons_self)
      simp only [List.length_cons] at hle
      have hm' : ∀ z ∈ ys, z ∈ xs := fun z hz => hm z (List.mem_cons_of_mem _ hz)
      rw [List.map_cons, lcL_cons, h1, ob_some, h2, bnd_ok]
      cases q : p y with
      | true =>
        obtain ⟨rf, ρ3, ρ4, h5, h6, h7⟩ := h3 q
        rw [if_pos rfl, h5, bnd_ok, h6, ob_some, if_pos (by omega)]
        dsimp only
        rw [h7, ih (acc ++ [f y]) hm' (by simp; omega), List.filter_cons_of_pos q]
        simp
      | false =>
        rw [if_neg (by simp), h4 q, ih acc hm' (by omega), List.filter_cons_of_neg (by simp [q])]
  simpa using key xs [] (fun _ h => h) (by simp)
/-! lists of ints, bools, texts for repr -/
theorem plains_of : ∀ (n : Nat) (ds : List D), (∀ d ∈ ds, plain n d = true) → plains n ds = true
  | _, [], _ => by simp [plains]
  | n, x :: xs, h => by simp [plains, h x List.mem_cons_self, plains_of n xs fun d hd => h d (List.mem_cons_of_mem _ hd)]
theorem plain_lst (n : Nat) (ds : List D) (h : ∀ d ∈ ds, plain n d = true) : plain (n + 1) (.lst ds) = true := plains_of n ds h
theorem okRs_of : ∀ {ds : List D}, (∀ d ∈ ds, okR d = true) → okRs ds = true
  | [], _ => rfl
  | x :: xs, h => by simp [okRs, h x List.mem_cons_self, okRs_of fun d hd => h d (List.mem_cons_of_mem _ hd)]
theorem wRs_of {b : Nat} : ∀ {ds : List D}, (∀ d ∈ ds, wR d ≤ b) → wRs ds ≤ (b + 2) * ds.length
  | [], _ => by simp [wRs]
  | x :: xs, h => by
    have h1 := h x List.mem_cons_self
    have h2 := wRs_of fun d hd => h d (List.mem_cons_of_mem _ hd)
    simp only [wRs, List.length_cons]
    rw [Nat.mul_succ]
    omega
theorem okR_int {i : Int} (h : i.natAbs < 2 ^ 1900) : okR (.int i) = true := by
  have h2 : i.natAbs.log2 < 1920 := by
    by_cases z : i.natAbs = 0
    · rw [z]; decide
    · have := (Nat.log2_lt z).mpr h
      omega
  simp [okR, h2]
@[simp] theorem blsOf_mapf {α : Type} (l : List α) (f : α → Bool) : D.blsOf (l.map fun k => D.bl (f k)) = some (l.map f) := by
  have := blsOf_map (l.map f)
  rwa [List.map_map] at this
@[simp] theorem strsOf_mapf {α : Type} (l : List α) (f : α → Str) : D.strsOf (l.map fun k => D.str (f k)) = some (l.map f) := by
  have := strsOf_map (l.map f)
  rwa [List.map_map] at this
@[simp] theorem intsOf_mapf {α : Type} (l : List α) (f : α → Int) : D.intsOf (l.map fun k => D.int (f k)) = some (l.map f) := by
  have := intsOf_map (l.map f)
  rwa [List.map_map] at this
/-! places -/
@[simp] theorem atI_pos {α : Type} (xs : List α) (i : Int) (h : 0 ≤ i) : L2.atI xs i = xs[i.toNat]? := by
  unfold L2.atI ixN
  rw [if_pos h]
  by_cases q : i < (xs.length : Int)
  · rw [if_pos q]; rfl
  · rw [if_neg q, List.getElem?_eq_none (by omega)]; rfl
theorem atI_neg {α : Type} (xs : List α) (i : Int) (h : i < 0) (h2 : -(xs.length : Int) ≤ i) : L2.atI xs i = xs[(i + xs.length).toNat]? := by
  unfold L2.atI ixN
  rw [if_neg (by omega), if_pos h2]; rfl
@[simp] theorem ixN_pos (n : Nat) (i : Int) (h : 0 ≤ i) : ixN n i = if i < (n : Int) then some i.toNat else none := by
  unfold ixN
  rw [if_pos h]
/-! powers, shown texts -/
@[simp] theorem pow_int (i j : Int) : powD (.int i) (.int j) = (if 0 ≤ j ∧ (Builtin.Int.intBits i : Int) * j ≤ 134217728 then some (.int (i ^ j.toNat)) else none) := rfl
@[simp] theorem intBits_10 : Builtin.Int.intBits 10 = 4 := by decide
@[simp] theorem neg_int (i : Int) : fNeg (fC (.int i)) = fun ρ => .ok (.val (.int (-i))) ρ := rfl
theorem okR_small {i : Int} (h : i.natAbs < 10 ^ 100) : okR (.int i) = true := okR_int (Nat.lt_trans h (by decide +kernel))
theorem repr_ints (xs : List Int) (h : ∀ x ∈ xs, x.natAbs < 10 ^ 100) (hl : xs.length ≤ 5000) : reprF [.lst (xs.map D.int)] = some (.str (shw (.lst (xs.map D.int)))) := by
  have h1 : plain 64 (.lst (xs.map D.int)) = true := plain_lst 63 _ fun d hd => by
    obtain ⟨x, _, rfl⟩ := List.mem_map.mp hd
    simp
  have h2 : okR (.lst (xs.map D.int)) = true := by
    show okRs _ = true
    exact okRs_of fun d hd => by
      obtain ⟨x, hx, rfl⟩ := List.mem_map.mp hd
      exact okR_small (h x hx)
  have h3 : wR (.lst (xs.map D.int)) ≤ 16777216 := by
    have := wRs_of (b := 1922) (ds := xs.map D.int) fun d hd => by
      obtain ⟨x, hx, rfl⟩ := List.mem_map.mp hd
      exact Nat.le_refl _
    rw [List.length_map] at this
    simp only [wR]
    omega
  simp [reprF, h1, h2, h3]
/-- a list whose items are shown each -/
theorem repr_lst (ds : List D) (n : Nat) (hn : n ≤ 63) (b : Nat) (h : ∀ d ∈ ds, plain n d = true ∧ okR d = true ∧ wR d ≤ b) (hl : (b + 2) * ds.length + 3 ≤ 16777216) (hp : ∀ d ∈ ds, plain 63 d = true) : reprF [.lst ds] = some (.str (shw (.lst ds))) := by
  have h1 : plain 64 (.lst ds) = true := plain_lst 63 _ hp
  have h2 : okR (.lst ds) = true := okRs_of fun d hd => (h d hd).2.1
  have h3 : wR (.lst ds) ≤ 16777216 := by
    have := wRs_of (b := b) (ds := ds) fun d hd => (h d hd).2.2
    simp only [wR]
    omega
  simp [reprF, h1, h2, h3]
end DL
/-! FD: texts: lengths, joined letters, letters drawn one by one. -/
namespace DL
open PySem L2
theorem app_len (a b : Str) : (a ++ b).length = a.length + b.length := Array.size_append
theorem app_cps (a b : Str) : (a ++ b).cps.toList = a.cps.toList ++ b.cps.toList := Array.toList_append
theorem len_cps (a : Str) : a.length = a.cps.toList.length := Array.length_toList.symm
/-- ''.join -/
theorem join_cps : ∀ (ys : List Str), (Txt.join (Str.ofString "") ys).cps.toList = ys.flatMap fun y => y.cps.toList := by
  have e0 : (Str.ofString "").cps.toList = [] := by decide
  intro ys
  rw [TL.join_eq]
  induction ys with
  | nil => rfl
  | cons x r ih =>
    cases r with
    | nil => simp [Str.join]
    | cons z r =>
      have : Str.join (Str.ofString "") (x :: z :: r) = x ++ Str.ofString "" ++ Str.join (Str.ofString "") (z :: r) := rfl
      rw [this, app_cps, app_cps, e0, ih]
      simp
theorem join_one {ys : List Str} {S : List Nat} (h : ∀ y ∈ ys, ∃ ch ∈ S, y = ⟨#[ch]⟩) : (Txt.join (Str.ofString "") ys).length = ys.length ∧ (∀ ch ∈ (Txt.join (Str.ofString "") ys).cps.toList, ch ∈ S) ∧ (ys.map (·.length)).sum = ys.length := by
  rw [len_cps, join_cps]
  induction ys with
  | nil => simp
  | cons y r ih =>
    obtain ⟨h1, h2, h3⟩ := ih fun z hz => h z (List.mem_cons_of_mem _ hz)
    obtain ⟨ch, hc, rfl⟩ := h y List.mem_cons_self
    have l1 : (⟨#[ch]⟩ : Str).length = 1 := rfl
    refine ⟨by simp [h1], ?_, by simp [h3, l1]; omega⟩
    intro x hx
    simp only [List.flatMap_cons, List.mem_append] at hx
    rcases hx with hx | hx
    · have : x = ch := by simpa using hx
      rw [this]; exact hc
    · exact h2 x hx
theorem set_same_none {r : DEnv} {i : Nat} (hi : r[i]? = some none) : r.set i none = r := by
  have li : i < r.length := (List.getElem?_eq_some_iff.mp hi).1
  apply List.ext_getElem?
  intro n
  by_cases hn : n = i
  · subst hn; rw [List.getElem?_set_self li, hi]
  · rw [List.getElem?_set_ne (Ne.symm hn)]
/-- [S[draw(G, m)] for x in ..] -/
theorem txt_comp {G : FF} {P : Nat → D → Prop} {lim : Nat} (dr : ∀ (k : Nat) (wd : D) (m : Int), P k wd → k < lim → 0 < m → m.natAbs.log2 < 9000 → ∃ (t : Int) (wd' : D), G [.bw wd, .fz (.int m)] = .rt (.int t) [wd'] ∧ 0 ≤ t ∧ t < m ∧ P (k + 1) wd')
    (S : Str) (m : Int) (hm : 0 < m) (hm2 : m ≤ S.length) (hS : S.length ≤ 1000) {r : DEnv} {i j : Nat} (hi : r[i]? = some none) (hj : r[j]? = some (some (.fz (.str S)))) (ij : i ≠ j) {M : FE}
    (hM : ∀ ρ' : DEnv, ρ'[j + 1]? = some (some (.fz (.str S))) → M ρ' = .ok (.val (.int m)) ρ') (ds : List D) (hl : ds.length ≤ 1000) (k : Nat) (wd : D) (hP : P k wd) (hk : k + ds.length < lim) :
    ∃ (ys : List Str) (wd' : D), lcL [i + 1] (gS1 (i + 1)) fYes (fBin itemD (fVar (j + 1)) (fCall G [true, false] (fCons (fVar 0) (fCons M fNil)))) ds [] (some (.bw wd) :: r) = .ok (.lst (ys.map D.str)) (some (.bw wd') :: r) ∧ ys.length = ds.length ∧ (∀ y ∈ ys, ∃ ch ∈ S.cps.toList, y = ⟨#[ch]⟩) ∧ P (k + ds.length) wd' := by
  have li : i < r.length := (List.getElem?_eq_some_iff.mp hi).1
  have s0 := set_same_none hi
  have s1 : (1000 : Nat) ≤ sizeLine := by decide
  obtain ⟨acc, ρ', h1, h2, h3⟩ := lcL_nx (vs := [i + 1]) (g := gS1 (i + 1)) (m := fBin itemD (fVar (j + 1)) (fCall G [true, false] (fCons (fVar 0) (fCons M fNil)))) (ds := ds) (ρ := some (.bw wd) :: r)
    (fun n acc ρ => ∃ (ys : List Str) (wd' : D), acc = ys.map D.str ∧ (∀ y ∈ ys, ∃ ch ∈ S.cps.toList, y = ⟨#[ch]⟩) ∧ ρ = some (.bw wd') :: r ∧ P (k + n) wd') (by omega) ⟨[], wd, rfl, by simp, rfl, hP⟩ (by
      rintro n d acc ρ hd ⟨ys, wd1, rfl, hy, rfl, hP1⟩
      have hn : n < ds.length := (List.getElem?_eq_some_iff.mp hd).1
      have hlog : m.natAbs.log2 < 9000 := Nat.lt_of_le_of_lt (Nat.log2_le_self _) (by omega)
      obtain ⟨t, wd2, e, t0, t1, hP2⟩ := dr (k + n) wd1 m hP1 (by omega) hm hlog
      have ht : t.toNat < S.cps.toList.length := by rw [← len_cps]; omega
      have gj : (r.set i (some (.fz d)))[j]? = some (some (.fz (.str S))) := by rw [List.getElem?_set_ne ij]; exact hj
      have eM := hM (some (.bw wd1) :: r.set i (some (.fz d))) (by rw [List.getElem?_cons_succ]; exact gj)
      have hz : S.length ≤ sizeLine := by omega
      have gt : S.cps.toList[t.toNat]? = some (S.cps.toList[t.toNat]'ht) := List.getElem?_eq_getElem ht
      have s2 : (r.set i (some (.fz d))).set i none = r := by rw [List.set_set]; exact s0
      refine ⟨some (.bw wd1) :: r.set i (some (.fz d)), .val (.str ⟨#[S.cps.toList[t.toNat]'ht]⟩), some (.bw wd2) :: r.set i (some (.fz d)), .str ⟨#[S.cps.toList[t.toNat]'ht]⟩, some (.bw wd2) :: r.set i (some (.fz d)), by simp [wipeD, s0], ?_, by simp, ?_⟩
      · simp [gj, eM, e, itemD, hz, t0, gt]
      · refine ⟨ys ++ [⟨#[S.cps.toList[t.toNat]'ht]⟩], wd2, by simp, ?_, by simp [backD, hi, s2, keepFz], by rw [← Nat.add_assoc]; exact hP2⟩
        intro y hy'
        rcases List.mem_append.mp hy' with z | z
        · exact hy y z
        · exact ⟨_, List.getElem_mem ht, List.mem_singleton.mp z⟩)
  obtain ⟨ys, wd', rfl, hy, rfl, hP'⟩ := h3
  exact ⟨ys, wd', h1, by simpa using h2, hy, hP'⟩
theorem mul_txt {z : Str} {k : Int} (h1 : -(2 ^ 63) ≤ k) (h2 : k ≤ 16777216) (h3 : z.length * k.toNat ≤ 16777216) : mulD (.str z) (.int k) = some (.str (repS z k)) := if_pos ⟨h1, h2, h3⟩
theorem mul_small {z : Str} {n : Nat} (hz : z.length ≤ 1000) {k : Int} (hk : k = (n : Int)) (hn : n ≤ 1000) : mulD (.str z) (.int k) = some (.str (repS z k)) := by
  refine mul_txt (by omega) (by omega) ?_
  have : k.toNat ≤ 1000 := by omega
  have h := Nat.mul_le_mul hz this
  omega
/-- an operator of two data (simp alone ends in a deep recursion where a text is taken so many times) -/
theorem bin_val {fa fb : FE} {ρ : DEnv} {a b d : D} (h1 : fa ρ = .ok (.val a) ρ) (h2 : fb ρ = .ok (.val b) ρ) {g : D → D → Option D} (h3 : g a b = some d) : fBin g fa fb ρ = .ok (.val d) ρ := by
  rw [fBin_s, h1, bind_ok, h2, bind_ok]
  show ob (some a) _ = _
  rw [ob_some]
  show ob (some b) _ = _
  rw [ob_some, h3, ob_some]
end DL
/-! FE: parts of texts opened one by one, by rewriting (where simp alone is too heavy). -/
namespace DL
open PySem L2
theorem seq_e (f g : FS) (ρ : DEnv) : fSeq f g ρ = (f ρ).seq g := rfl
theorem fif_t {t : FT} {a b : FS} {ρ ρ' : DEnv} (h : t ρ = .ok true ρ') : fIf t a b ρ = a ρ' := by
  show (t ρ).z _ = _
  rw [h]; rfl
theorem fif_f {t : FT} {a b : FS} {ρ ρ' : DEnv} (h : t ρ = .ok false ρ') : fIf t a b ρ = b ρ' := by
  show (t ρ).z _ = _
  rw [h]; rfl
theorem fset_v {fa : FE} {i : Nat} {ρ ρ' : DEnv} {d : D} (h : fa ρ = .ok (.val d) ρ') : fSet fa (gS1 i) ρ = .nx (ρ'.set i (some (.fz d))) := by
  show (fa ρ).z _ = _
  rw [h]; rfl
theorem fseto_v {fa : FW} {i : Nat} {ρ ρ' : DEnv} {d : D} (h : fa ρ = .ok d ρ') : fSetO i fa ρ = .nx (ρ'.set i (some (.ow d))) := by
  show (fa ρ).z _ = _
  rw [h]; rfl
theorem flc_v {fi : FI} {vs : List Nat} {g : FG} {t : FT} {m : FE} {ρ ρ' : DEnv} {ds : List D} (h : fi ρ = .ok ds ρ') : fLc fi vs g t m ρ = lcL vs g t m ds [] ρ' := by
  show (fi ρ).bind _ = _
  rw [h]; rfl
theorem foo_v {fo : FW} {ρ ρ' : DEnv} {d : D} (h : fo ρ = .ok d ρ') : fOO fo ρ = .ok (.val d) ρ' := by
  show (fo ρ).bind _ = _
  rw [h]; rfl
theorem ffor_v {fi : FI} {g : FG} {b : FS} {ρ ρ' : DEnv} {ds : List D} (h : fi ρ = .ok ds ρ') : fFor fi g b ρ = forL g b ds ρ' := by
  show (fi ρ).z _ = _
  rw [h]; rfl
/-- an operator, the left side a name -/
theorem bin_sl {fb : FE} {i : Nat} {ρ : DEnv} {a b d : D} (h1 : slotD ρ[i]? = some a) (h2 : fb ρ = .ok (.val b) ρ) {g : D → D → Option D} (h3 : g a b = some d) : fBin g (fVar i) fb ρ = .ok (.val d) ρ := by
  have e : fVar i ρ = .ok (.sl i) ρ := by
    show ob (slotD ρ[i]?) _ = _
    rw [h1, ob_some]
  rw [fBin_s, e, bind_ok, h2, bind_ok]
  show ob (slotD ρ[i]?) _ = _
  rw [h1, ob_some]
  show ob (some b) _ = _
  rw [ob_some, h3, ob_some]
/-- .. the sides may draw -/
theorem bin_v {fa fb : FE} {ρ ρ1 ρ2 : DEnv} {a b d : D} (h1 : fa ρ = .ok (.val a) ρ1) (h2 : fb ρ1 = .ok (.val b) ρ2) {g : D → D → Option D} (h3 : g a b = some d) : fBin g fa fb ρ = .ok (.val d) ρ2 := by
  rw [fBin_s, h1, bind_ok, h2, bind_ok]
  show ob (some a) _ = _
  rw [ob_some]
  show ob (some b) _ = _
  rw [ob_some, h3, ob_some]
theorem rng_i {fa : FA} {ρ ρ' : DEnv} {j : Int} (h : fa ρ = .ok [.val (.int j)] ρ') : fRng1 fa ρ = (if -(2 ^ 62) ≤ j ∧ j < 2 ^ 62 then R.ok (rngD 0 j.toNat) ρ' else R.no) := by
  unfold fRng1
  rw [h]
  rfl
/-- range(e): simp over its bounds ends in a deep recursion of the kernel where e draws -/
theorem rng_v {fa : FE} {ρ ρ' : DEnv} {n : Nat} (h : fa ρ = .ok (.val (.int (n : Int))) ρ') (hn : n ≤ 1000) : fRng1 (fCons fa fNil) ρ = .ok (rngD 0 n) ρ' := by
  have e : fCons fa fNil ρ = .ok [.val (.int (n : Int))] ρ' := by simp [h]
  rw [rng_i e, if_pos (⟨by omega, by omega⟩ : -(2 ^ 62) ≤ (n : Int) ∧ (n : Int) < 2 ^ 62), Int.toNat_natCast]
/-- a call of a draw: f(well, m) -/
theorem join_v {fe : FE} {ρ ρ' : DEnv} {ys : List Str} (h : fe ρ = .ok (.val (.lst (ys.map D.str))) ρ') (hl : (ys.map (·.length)).sum ≤ 16777216) : fJoin (fC (.str (Str.ofString ""))) fe ρ = .ok (.val (.str (Txt.join (Str.ofString "") ys))) ρ' := by
  have e0 : (Str.ofString "").length = 0 := rfl
  show R.bind (fe ρ) _ = _
  rw [h, bind_ok]
  show ob (some (D.lst (ys.map D.str))) _ = _
  rw [ob_some]
  dsimp only
  rw [strsOf_map, ob_some, e0, if_pos (by omega)]
theorem freto_v {fo : FW} {ρ ρ' : DEnv} {d : D} (h : fo ρ = .ok d ρ') : fRetO fo ρ = .ro d ρ' := by
  show (fo ρ).z _ = _
  rw [h]; rfl
theorem fret_v {fa : FE} {ρ ρ' : DEnv} {d : D} (h : fa ρ = .ok (.val d) ρ') : fRet fa ρ = .rt d ρ' := by
  show (fa ρ).z _ = _
  rw [h]; rfl
/-- f(well, m), m may draw itself -/
theorem draw_m {F : FF} {M : FE} {wd wd1 wd2 m d : D} {r : DEnv} (hM : M (some (.bw wd) :: r) = .ok (.val m) (some (.bw wd1) :: r)) (e : F [.bw wd1, .fz m] = .rt d [wd2]) : fCall F [true, false] (fCons (fVar 0) (fCons M fNil)) (some (.bw wd) :: r) = .ok (.val d) (some (.bw wd2) :: r) := by
  simp [hM, e]
theorem draw_v {F : FF} {wd wd2 m d : D} {r : DEnv} (e : F [.bw wd, .fz m] = .rt d [wd2]) : fCall F [true, false] (fCons (fVar 0) (fCons (fC m) fNil)) (some (.bw wd) :: r) = .ok (.val d) (some (.bw wd2) :: r) := draw_m rfl e
theorem rng_sl {i : Nat} {ρ : DEnv} {n : Nat} (h : slotD ρ[i]? = some (.int (n : Int))) (hn : n ≤ 1000) : fRng1 (fCons (fVar i) fNil) ρ = .ok (rngD 0 n) ρ := by
  have e : fCons (fVar i) fNil ρ = .ok [.sl i] ρ := by simp [h]
  unfold fRng1
  rw [e, bind_ok]
  have g : gets ρ [.sl i] = some [.int (n : Int)] := by simp [h]
  rw [g, ob_some]
  show (if -(2 ^ 62) ≤ (n : Int) ∧ (n : Int) < 2 ^ 62 then R.ok (rngD 0 (n : Int).toNat) ρ else R.no) = _
  rw [if_pos (⟨by omega, by omega⟩ : -(2 ^ 62) ≤ (n : Int) ∧ (n : Int) < 2 ^ 62), Int.toNat_natCast]
end DL
namespace Lk
open PySem L2 DL
/-- the classes -/
structure Cl where
  Value : Addr
  RunError : Addr
  InvalidName : Addr
  UnknownName : Addr
  InvalidDivisor : Addr
/-- no two classes are one -/
structure ClOk (c : Cl) : Prop where
  ne_Value_RunError : c.Value ≠ c.RunError
  ne_Value_InvalidName : c.Value ≠ c.InvalidName
  ne_Value_UnknownName : c.Value ≠ c.UnknownName
  ne_Value_InvalidDivisor : c.Value ≠ c.InvalidDivisor
  ne_RunError_InvalidName : c.RunError ≠ c.InvalidName
  ne_RunError_UnknownName : c.RunError ≠ c.UnknownName
  ne_RunError_InvalidDivisor : c.RunError ≠ c.InvalidDivisor
  ne_InvalidName_UnknownName : c.InvalidName ≠ c.UnknownName
  ne_InvalidName_InvalidDivisor : c.InvalidName ≠ c.InvalidDivisor
  ne_UnknownName_InvalidDivisor : c.UnknownName ≠ c.InvalidDivisor
def b_is_name (c : Cl) : FS :=
    (fRet (fAnd (fChain leD leD (fC (.int 1)) (fCa lenD (fCons (fVar 0) fNil)) (fC (.int 8))) (fCa allF (fCons (fOO (fLc (fIter (fVar 0)) [1] (gS1 1) fYes (fBin inF (fVar 1) (fC (.str "abcdefghijklmnopqrstuvwxyz"))))) fNil))))
def F_is_name (c : Cl) : FF := runF 1 1 (b_is_name c)
def b_check_name (c : Cl) : FS :=
    (fIf (fNotT (fTst (fCall (F_is_name c) [false] (fCons (fVar 0) fNil)))) (fRaise c.InvalidName (fVar 0)) fSkip)
def F_check_name (c : Cl) : FF := runF 1 0 (b_check_name c)
def b_check_divisor (c : Cl) : FS :=
    (fIf (fTst (fBin ltD (fVar 0) (fC (.int 1)))) (fRaise c.InvalidDivisor (fVar 0)) fSkip)
def F_check_divisor (c : Cl) : FF := runF 1 0 (b_check_divisor c)
def b_Value_UinitU (c : Cl) : FS :=
    (fSeq (fFldS [c.Value] 0 "sign" (fVar 1))
    (fSeq (fFldS [c.Value] 0 "first" (fVar 2))
    (fFldS [c.Value] 0 "second" (fVar 3))))
def F_Value_UinitU (c : Cl) : FF := runF 4 0 (b_Value_UinitU c)
def b_named (c : Cl) : FS :=
    (fSeq (fDrop (fCall (F_check_name c) [false] (fCons (fVar 0) fNil)))
    (fRetO (fMake c.Value (F_Value_UinitU c) (fCons (fC (.str "named")) (fCons (fVar 0) (fCons (fC .non) fNil))))))
def F_named (c : Cl) : FF := runF 1 0 (b_named c)
def b_now (c : Cl) : FS :=
    (fSeq (fDrop (fCall (F_check_name c) [false] (fCons (fVar 0) fNil)))
    (fRetO (fMake c.Value (F_Value_UinitU c) (fCons (fC (.str "now")) (fCons (fVar 0) (fCons (fC .non) fNil))))))
def F_now (c : Cl) : FF := runF 1 0 (b_now c)
def b_passed (c : Cl) : FS :=
    (fRetO (fMake c.Value (F_Value_UinitU c) (fCons (fC (.str "passed")) (fCons (fC .non) (fCons (fC .non) fNil)))))
def F_passed (c : Cl) : FF := runF 0 0 (b_passed c)
def b_number (c : Cl) : FS :=
    (fRetO (fMake c.Value (F_Value_UinitU c) (fCons (fC (.str "number")) (fCons (fVar 0) (fCons (fC .non) fNil)))))
def F_number (c : Cl) : FF := runF 1 0 (b_number c)
def b_value_of (c : Cl) : FS :=
    (fRet (fIfE (fTst (isiD (isOwn c.Value []) (fVar 0))) (fVar 0) (fCall (F_number c) [false] (fCons (fVar 0) fNil))))
def F_value_of (c : Cl) : FF := runF 1 0 (b_value_of c)
def b_Value_UaddU (c : Cl) : FS :=
    (fRetO (fMake c.Value (F_Value_UinitU c) (fCons (fC (.str "+")) (fCons (fVar 0) (fCons (fCall (F_value_of c) [false] (fCons (fVar 1) fNil)) fNil)))))
def F_Value_UaddU (c : Cl) : FF := runF 2 0 (b_Value_UaddU c)
def b_Value_UraddU (c : Cl) : FS :=
    (fRetO (fMake c.Value (F_Value_UinitU c) (fCons (fC (.str "+")) (fCons (fCall (F_value_of c) [false] (fCons (fVar 1) fNil)) (fCons (fVar 0) fNil)))))
def F_Value_UraddU (c : Cl) : FF := runF 2 0 (b_Value_UraddU c)
def b_Value_UsubU (c : Cl) : FS :=
    (fRetO (fMake c.Value (F_Value_UinitU c) (fCons (fC (.str "-")) (fCons (fVar 0) (fCons (fCall (F_value_of c) [false] (fCons (fVar 1) fNil)) fNil)))))
def F_Value_UsubU (c : Cl) : FF := runF 2 0 (b_Value_UsubU c)
def b_Value_UrsubU (c : Cl) : FS :=
    (fRetO (fMake c.Value (F_Value_UinitU c) (fCons (fC (.str "-")) (fCons (fCall (F_value_of c) [false] (fCons (fVar 1) fNil)) (fCons (fVar 0) fNil)))))
def F_Value_UrsubU (c : Cl) : FF := runF 2 0 (b_Value_UrsubU c)
def b_Value_UmulU (c : Cl) : FS :=
    (fRetO (fMake c.Value (F_Value_UinitU c) (fCons (fC (.str "*")) (fCons (fVar 0) (fCons (fCall (F_value_of c) [false] (fCons (fVar 1) fNil)) fNil)))))
def F_Value_UmulU (c : Cl) : FF := runF 2 0 (b_Value_UmulU c)
def b_Value_UrmulU (c : Cl) : FS :=
    (fRetO (fMake c.Value (F_Value_UinitU c) (fCons (fC (.str "*")) (fCons (fCall (F_value_of c) [false] (fCons (fVar 1) fNil)) (fCons (fVar 0) fNil)))))
def F_Value_UrmulU (c : Cl) : FF := runF 2 0 (b_Value_UrmulU c)
def b_Value_UfloordivU (c : Cl) : FS :=
    (fSeq (fDrop (fCall (F_check_divisor c) [false] (fCons (fVar 1) fNil)))
    (fRetO (fMake c.Value (F_Value_UinitU c) (fCons (fC (.str "//")) (fCons (fVar 0) (fCons (fCall (F_number c) [false] (fCons (fVar 1) fNil)) fNil))))))
def F_Value_UfloordivU (c : Cl) : FF := runF 2 0 (b_Value_UfloordivU c)
def b_Value_UandU (c : Cl) : FS :=
    (fRetO (fMake c.Value (F_Value_UinitU c) (fCons (fC (.str "&")) (fCons (fVar 0) (fCons (fCall (F_value_of c) [false] (fCons (fVar 1) fNil)) fNil)))))
def F_Value_UandU (c : Cl) : FF := runF 2 0 (b_Value_UandU c)
def b_Value_UrandU (c : Cl) : FS :=
    (fRetO (fMake c.Value (F_Value_UinitU c) (fCons (fC (.str "&")) (fCons (fCall (F_value_of c) [false] (fCons (fVar 1) fNil)) (fCons (fVar 0) fNil)))))
def F_Value_UrandU (c : Cl) : FF := runF 2 0 (b_Value_UrandU c)
def b_Value_UorU (c : Cl) : FS :=
    (fRetO (fMake c.Value (F_Value_UinitU c) (fCons (fC (.str "|")) (fCons (fVar 0) (fCons (fCall (F_value_of c) [false] (fCons (fVar 1) fNil)) fNil)))))
def F_Value_UorU (c : Cl) : FF := runF 2 0 (b_Value_UorU c)
def b_Value_UrorU (c : Cl) : FS :=
    (fRetO (fMake c.Value (F_Value_UinitU c) (fCons (fC (.str "|")) (fCons (fCall (F_value_of c) [false] (fCons (fVar 1) fNil)) (fCons (fVar 0) fNil)))))
def F_Value_UrorU (c : Cl) : FF := runF 2 0 (b_Value_UrorU c)
def b_Value_UinvertU (c : Cl) : FS :=
    (fRetO (fMake c.Value (F_Value_UinitU c) (fCons (fC (.str "~")) (fCons (fVar 0) (fCons (fC .non) fNil)))))
def F_Value_UinvertU (c : Cl) : FF := runF 1 0 (b_Value_UinvertU c)
def b_Value_UeqU (c : Cl) (F_Value_UeqU : FF) : FS :=
    (fSeq (fIf (fOrT (fNotT (fTst (isiD (isOwn c.Value []) (fVar 1)))) (fTst (fBin (neX (eqFc c.Value F_Value_UeqU noEq)) (fFld [c.Value] "sign" (fVar 0)) (fFld [c.Value] "sign" (fVar 1))))) (fRet (fC (.bl false))) fSkip)
    (fRet (fAnd (fBin (eqX (eqFc c.Value F_Value_UeqU noEq)) (fFld [c.Value] "first" (fVar 0)) (fFld [c.Value] "first" (fVar 1))) (fBin (eqX (eqFc c.Value F_Value_UeqU noEq)) (fFld [c.Value] "second" (fVar 0)) (fFld [c.Value] "second" (fVar 1))))))
def F_Value_UeqU (c : Cl) : Nat → FF
  | 0 => noF
  | n + 1 => runF 2 0 (b_Value_UeqU c (F_Value_UeqU c n))
def b_Value_rest (c : Cl) : FS :=
    (fSeq (fDrop (fCall (F_check_divisor c) [false] (fCons (fVar 1) fNil)))
    (fRetO (fMake c.Value (F_Value_UinitU c) (fCons (fC (.str "mod")) (fCons (fVar 0) (fCons (fCall (F_number c) [false] (fCons (fVar 1) fNil)) fNil))))))
def F_Value_rest (c : Cl) : FF := runF 2 0 (b_Value_rest c)
def b_Value_same (c : Cl) : FS :=
    (fRetO (fMake c.Value (F_Value_UinitU c) (fCons (fC (.str "=")) (fCons (fVar 0) (fCons (fCall (F_value_of c) [false] (fCons (fVar 1) fNil)) fNil)))))
def F_Value_same (c : Cl) : FF := runF 2 0 (b_Value_same c)
def b_Value_less (c : Cl) : FS :=
    (fRetO (fMake c.Value (F_Value_UinitU c) (fCons (fC (.str "<")) (fCons (fVar 0) (fCons (fCall (F_value_of c) [false] (fCons (fVar 1) fNil)) fNil)))))
def F_Value_less (c : Cl) : FF := runF 2 0 (b_Value_less c)
def b_law_well (c : Cl) : FS :=
    (fSeq (fSet (fC (.int 0)) (gS1 2))
    (fSeq (fIf (fTst (fBin ltD (fVar 1) (fCa lenD (fCons (fVar 0) fNil)))) (fSet (fBin itemD (fVar 0) (fVar 1)) (gS1 2)) fSkip)
    (fSeq (fSet (fBin modD (fCa intD (fCons (fBin addD (fBin mulD (fCa (i1D fun i => if i < 0 then -i else i) (fCons (fVar 2) fNil)) (fC (.int 2))) (fCa intD (fCons (fBin ltD (fVar 2) (fC (.int 0))) fNil))) fNil)) (fC (.int 2305843009213693951))) (gS1 3))
    (fRetO (fLst (fCons (fBin mulD (fVar 2) (fCa intD (fCons (fBin geD (fVar 2) (fBin powD (fC (.int 10)) (fC (.int 18)))) fNil))) (fCons (fBin addD (fVar 3) (fBin mulD (fC (.int 1000003)) (fVar 1))) (fCons (fC (.int 0)) fNil))))))))
def F_law_well (c : Cl) : FF := runF 2 2 (b_law_well c)
def b_law_take (c : Cl) : FS :=
    (fSeq (fIf (fTst (fBin gtD (fBin itemD (fVar 0) (fC (.int 0))) (fC (.int 0)))) (fSeq (fSet (fBin modD (fCa intD (fCons (fBin itemD (fVar 0) (fC (.int 0))) fNil)) (fVar 1)) (gS1 2))
    (fSeq (fPut 0 (fC (.int 0)) (fBin divD (fBin itemD (fVar 0) (fC (.int 0))) (fVar 1)))
    (fRetV 2))) fSkip)
    (fSeq (fPut 0 (fC (.int 2)) (fBin addD (fBin itemD (fVar 0) (fC (.int 2))) (fC (.int 1))))
    (fSeq (fSet (fBin addD (fBin powD (fBin addD (fBin itemD (fVar 0) (fC (.int 1))) (fBin mulD (fC (.int 6700417)) (fBin itemD (fVar 0) (fC (.int 2))))) (fC (.int 3))) (fBin mulD (fC (.int 97)) (fBin itemD (fVar 0) (fC (.int 2))))) (gS1 3))
    (fSeq (fSet (fBin addD (fBin modD (fCa intD (fCons (fVar 3) fNil)) (fC (.int 2305843009213693951))) (fBin mulD (fC (.int 2971215073)) (fBin itemD (fVar 0) (fC (.int 2))))) (gS1 3))
    (fSeq (fSet (fBin modD (fCa intD (fCons (fBin powD (fVar 3) (fC (.int 3))) fNil)) (fC (.int 618970019642690137449562111))) (gS1 3))
    (fRet (fBin modD (fCa intD (fCons (fBin divD (fVar 3) (fC (.int 131072))) fNil)) (fVar 1))))))))
def F_law_take (c : Cl) : FF := runF 2 2 (b_law_take c)
def b_law_cells (c : Cl) : FS :=
    (fSeq (fSet (fTup (fCons (fC (.str "abcdefghijklmnopqrstuvwxyz")) (fCons (fCall (F_law_take c) [true, false] (fCons (fVar 0) (fCons (fC (.int 4)) fNil))) (fCons (fCall (F_law_take c) [true, false] (fCons (fVar 0) (fCons (fC (.int 26)) fNil))) fNil)))) (gT1 3 (gC1 (gS1 2) (gC1 (gS1 3) (gC1 (gS1 4) gN0)))))
    (fSeq (fIf (fTst (fBin eqD (fVar 3) (fC (.int 0)))) (fRetO (fLc (fRng1 (fCons (fVar 1) fNil)) [5] (gS1 5) fYes (fBin mulD (fBin itemD (fVar 2) (fVar 4)) (fBin addD (fVar 5) (fC (.int 1)))))) fSkip)
    (fSeq (fIf (fTst (fBin eqD (fVar 3) (fC (.int 1)))) (fSeq (fSet (fOO (fLst (fCons (fC (.str "now")) (fCons (fC (.str "on")) (fCons (fC (.str "cells")) (fCons (fC (.str "show")) (fCons (fC (.str "named")) (fCons (fC (.str "handler")) fNil)))))))) (gS1 6))
    (fSeq (fSet (fBin addD (fVar 6) (fOO (fLst (fCons (fC (.str "memo")) (fCons (fC (.str "mod")) (fCons (fC (.str "argument")) (fCons (fC (.str "passed")) (fCons (fC (.str "names")) (fCons (fC (.str "present")) fNil))))))))) (gS1 6))
    (fRetO (fLc (fRng1 (fCons (fVar 1) fNil)) [5] (gS1 5) fYes (fBin itemD (fVar 6) (fBin modD (fCa intD (fCons (fBin addD (fVar 4) (fVar 5)) fNil)) (fC (.int 12)))))))) fSkip)
    (fSeq (fSet (fJoin (fC (.str "")) (fOO (fLc (fRng1 (fCons (fBin addD (fC (.int 1)) (fCall (F_law_take c) [true, false] (fCons (fVar 0) (fCons (fC (.int 8)) fNil)))) fNil)) [8] (gS1 8) fYes (fBin itemD (fVar 2) (fCall (F_law_take c) [true, false] (fCons (fVar 0) (fCons (fC (.int 26)) fNil))))))) (gS1 7))
    (fSeq (fSet (fTup (fCons (fCall (F_law_take c) [true, false] (fCons (fVar 0) (fCons (fCa lenD (fCons (fVar 7) fNil)) fNil))) (fCons (fBin itemD (fOO (fLst (fCons (fC (.int 1)) (fCons (fC (.int 3)) (fCons (fC (.int 5)) (fCons (fC (.int 7)) (fCons (fC (.int 11)) fNil))))))) (fCall (F_law_take c) [true, false] (fCons (fVar 0) (fCons (fC (.int 5)) fNil)))) fNil))) (gT1 2 (gC1 (gS1 9) (gC1 (gS1 10) gN0))))
    (fRetO (fLc (fRng1 (fCons (fVar 1) fNil)) [5] (gS1 5) fYes (fBin addD (fBin addD (fSl (fVar 7) fPN (fPS (fVar 9))) (fBin itemD (fVar 2) (fBin modD (fCa intD (fCons (fBin addD (fVar 4) (fBin mulD (fVar 10) (fVar 5))) fNil)) (fC (.int 26))))) (fSl (fVar 7) (fPS (fBin addD (fVar 9) (fC (.int 1)))) fPN)))))))))
def F_law_cells (c : Cl) : FF := runF 2 9 (b_law_cells c)
def b_law_integer (c : Cl) : FS :=
    (fSeq (fSet (fOO (fLst (fCons (fBin subD (fCall (F_law_take c) [true, false] (fCons (fVar 0) (fCons (fC (.int 7)) fNil))) (fC (.int 3))) (fCons (fBin subD (fCall (F_law_take c) [true, false] (fCons (fVar 0) (fCons (fC (.int 2001)) fNil))) (fC (.int 1000))) (fCons (fBin subD (fCall (F_law_take c) [true, false] (fCons (fVar 0) (fCons (fC (.int 21)) fNil))) (fC (.int 10))) fNil))))) (gS1 1))
    (fRet (fBin itemD (fBin addD (fVar 1) (fOO (fLst (fCons (fBin addD (fBin subD (fCall (F_law_take c) [true, false] (fCons (fVar 0) (fCons (fBin subD (fBin mulD (fC (.int 2)) (fBin powD (fC (.int 10)) (fC (.int 20)))) (fC (.int 1))) fNil))) (fBin powD (fC (.int 10)) (fC (.int 20)))) (fC (.int 1))) fNil)))) (fCall (F_law_take c) [true, false] (fCons (fVar 0) (fCons (fC (.int 4)) fNil))))))
def F_law_integer (c : Cl) : FF := runF 1 1 (b_law_integer c)
def b_law_recipe (c : Cl) (F_law_recipe : FF) : FS :=
    (fSeq (fSet (fIfE (fOrT (fTst (fBin eqD (fVar 2) (fC (.int 0)))) (fTst (fBin eqD (fCall (F_law_take c) [true, false] (fCons (fVar 0) (fCons (fC (.int 9)) fNil))) (fC (.int 0))))) (fCall (F_law_take c) [true, false] (fCons (fVar 0) (fCons (fC (.int 5)) fNil))) (fBin addD (fC (.int 5)) (fCall (F_law_take c) [true, false] (fCons (fVar 0) (fCons (fC (.int 12)) fNil))))) (gS1 3))
    (fSeq (fIf (fTst (fBin eqD (fVar 3) (fC (.int 0)))) (fRet (fTup (fCons (fC (.str "g")) fNil))) fSkip)
    (fSeq (fIf (fOrT (fTst (fBin eqD (fVar 3) (fC (.int 1)))) (fAndT (fTst (fBin ltD (fVar 3) (fC (.int 5)))) (fTst (fBin eqD (fVar 1) (fOO (fLst fNil)))))) (fRet (fTup (fCons (fC (.str "n")) (fCons (fCall (F_law_integer c) [true] (fCons (fVar 0) fNil)) fNil)))) fSkip)
    (fSeq (fIf (fTst (fBin ltD (fVar 3) (fC (.int 5)))) (fRet (fTup (fCons (fBin itemD (fOO (fLst (fCons (fC (.str "w")) (fCons (fC (.str "c")) (fCons (fC (.str "c")) fNil))))) (fBin subD (fVar 3) (fC (.int 2)))) (fCons (fBin itemD (fVar 1) (fCall (F_law_take c) [true, false] (fCons (fVar 0) (fCons (fCa lenD (fCons (fVar 1) fNil)) fNil)))) fNil)))) fSkip)
    (fSeq (fIf (fTst (fBin eqD (fVar 3) (fC (.int 5)))) (fRet (fTup (fCons (fC (.str "~")) (fCons (fCall F_law_recipe [true, false, false] (fCons (fVar 0) (fCons (fVar 1) (fCons (fBin subD (fVar 2) (fC (.int 1))) fNil)))) fNil)))) fSkip)
    (fSeq (fIf (fTst (fBin ltD (fVar 3) (fC (.int 8)))) (fSeq (fSet (fCall F_law_recipe [true, false, false] (fCons (fVar 0) (fCons (fVar 1) (fCons (fBin subD (fVar 2) (fC (.int 1))) fNil)))) (gS1 4))
    (fRet (fTup (fCons (fBin itemD (fOO (fLst (fCons (fC (.str "//")) (fCons (fC (.str "mod")) fNil)))) (fBin subD (fVar 3) (fC (.int 6)))) (fCons (fVar 4) (fCons (fBin addD (fC (.int 1)) (fCall (F_law_take c) [true, false] (fCons (fVar 0) (fCons (fBin itemD (fOO (fLst (fCons (fC (.int 7)) (fCons (fC (.int 1000)) (fCons (fBin subD (fBin powD (fC (.int 10)) (fC (.int 20))) (fC (.int 1))) fNil))))) (fCall (F_law_take c) [true, false] (fCons (fVar 0) (fCons (fC (.int 3)) fNil)))) fNil)))) fNil)))))) fSkip)
    (fSeq (fSet (fBin itemD (fOO (fLst (fCons (fC (.str "+")) (fCons (fC (.str "-")) (fCons (fC (.str "*")) (fCons (fC (.str "&")) (fCons (fC (.str "|")) (fCons (fC (.str "=")) (fCons (fC (.str "<")) (fCons (fC (.str "+")) (fCons (fC (.str "*")) fNil))))))))))) (fBin subD (fVar 3) (fC (.int 8)))) (gS1 5))
    (fSeq (fSet (fBin itemD (fOO (fLst (fCons (fC (.int 0)) (fCons (fBin subD (fVar 2) (fC (.int 1))) (fCons (fCall (F_law_take c) [true, false] (fCons (fVar 0) (fCons (fVar 2) fNil))) fNil))))) (fCall (F_law_take c) [true, false] (fCons (fVar 0) (fCons (fC (.int 3)) fNil)))) (gS1 6))
    (fSeq (fSet (fCall F_law_recipe [true, false, false] (fCons (fVar 0) (fCons (fVar 1) (fCons (fVar 6) fNil)))) (gS1 4))
    (fRet (fTup (fCons (fVar 5) (fCons (fVar 4) (fCons (fCall F_law_recipe [true, false, false] (fCons (fVar 0) (fCons (fVar 1) (fCons (fBin subD (fBin subD (fVar 2) (fC (.int 1))) (fVar 6)) fNil)))) fNil))))))))))))))
def F_law_recipe (c : Cl) : Nat → FF
  | 0 => noF
  | n + 1 => runF 3 4 (b_law_recipe c (F_law_recipe c n))
def b_law_signs (c : Cl) (F_law_signs : FF) : FS :=
    (fSeq (fSetO 1 (fLc (fIter (fVar 0)) [2] (gS1 2) (fTst (isiD (isTy "tuple" [c.Value]) (fVar 2))) (fCall F_law_signs [false] (fCons (fVar 2) fNil))))
    (fRet (fBin addD (fCa intD (fCons (fBin notInF (fBin itemD (fVar 0) (fC (.int 0))) (fTup (fCons (fC (.str "c")) (fCons (fC (.str "w")) (fCons (fC (.str "g")) (fCons (fC (.str "n")) fNil)))))) fNil)) (fCa sumF (fCons (fVar 1) fNil)))))
def F_law_signs (c : Cl) : Nat → FF
  | 0 => noF
  | n + 1 => runF 1 2 (b_law_signs c (F_law_signs c n))
def b_law_joined (c : Cl) : FS :=
    (fSeq (fIf (fTst (fBin inF (fVar 0) (fTup (fCons (fC (.str "+")) (fCons (fC (.str "-")) fNil))))) (fRet (fIfE (fTst (fBin eqD (fVar 0) (fC (.str "+")))) (fOwn addD c.Value (F_Value_UaddU c) (F_Value_UraddU c) (fVar 1) (fVar 2)) (fOwn subD c.Value (F_Value_UsubU c) (F_Value_UrsubU c) (fVar 1) (fVar 2)))) fSkip)
    (fSeq (fIf (fTst (fBin eqD (fVar 0) (fC (.str "*")))) (fRet (fOwn mulD c.Value (F_Value_UmulU c) (F_Value_UrmulU c) (fVar 1) (fVar 2))) fSkip)
    (fSeq (fIf (fTst (fBin inF (fVar 0) (fTup (fCons (fC (.str "&")) (fCons (fC (.str "|")) fNil))))) (fRet (fIfE (fTst (fBin eqD (fVar 0) (fC (.str "&")))) (fOwn (fun _ _ => none) c.Value (F_Value_UandU c) (F_Value_UrandU c) (fVar 1) (fVar 2)) (fOwn (fun _ _ => none) c.Value (F_Value_UorU c) (F_Value_UrorU c) (fVar 1) (fVar 2)))) fSkip)
    (fRet (fIfE (fTst (fBin eqD (fVar 0) (fC (.str "=")))) (fMeth c.Value "same" (F_Value_same c) [false, false] (fVar 1) (fCons (fVar 2) fNil)) (fMeth c.Value "less" (F_Value_less c) [false, false] (fVar 1) (fCons (fVar 2) fNil)))))))
def F_law_joined (c : Cl) : FF := runF 3 0 (b_law_joined c)
def b_law_side (c : Cl) (F_law_side F_law_built : FF) : FS :=
    (fRet (fIfE (fAndT (fTst (fBin eqD (fBin itemD (fVar 0) (fC (.int 0))) (fC (.str "n")))) (fTst (fBin eqD (fVar 1) (fC (.int 1))))) (fBin itemD (fVar 0) (fC (.int 1))) (fCall F_law_built [false, false] (fCons (fVar 0) (fCons (fVar 1) fNil)))))
def b_law_built (c : Cl) (F_law_side F_law_built : FF) : FS :=
    (fSeq (fIf (fTst (fBin inF (fBin itemD (fVar 0) (fC (.int 0))) (fTup (fCons (fC (.str "c")) (fCons (fC (.str "w")) fNil))))) (fRet (fIfE (fTst (fBin eqD (fBin itemD (fVar 0) (fC (.int 0))) (fC (.str "c")))) (fCall (F_named c) [false] (fCons (fBin itemD (fVar 0) (fC (.int 1))) fNil)) (fCall (F_now c) [false] (fCons (fBin itemD (fVar 0) (fC (.int 1))) fNil)))) fSkip)
    (fSeq (fIf (fTst (fBin eqD (fBin itemD (fVar 0) (fC (.int 0))) (fC (.str "g")))) (fRet (fCall (F_passed c) [] fNil)) fSkip)
    (fSeq (fIf (fTst (fBin eqD (fBin itemD (fVar 0) (fC (.int 0))) (fC (.str "n")))) (fRet (fCall (F_number c) [false] (fCons (fBin itemD (fVar 0) (fC (.int 1))) fNil))) fSkip)
    (fSeq (fIf (fTst (fBin eqD (fBin itemD (fVar 0) (fC (.int 0))) (fC (.str "~")))) (fRet (fInv c.Value (F_Value_UinvertU c) (fCall F_law_built [false, false] (fCons (fBin itemD (fVar 0) (fC (.int 1))) (fCons (fVar 1) fNil))))) fSkip)
    (fSeq (fIf (fTst (fBin inF (fBin itemD (fVar 0) (fC (.int 0))) (fTup (fCons (fC (.str "//")) (fCons (fC (.str "mod")) fNil))))) (fSeq (fSet (fCall F_law_built [false, false] (fCons (fBin itemD (fVar 0) (fC (.int 1))) (fCons (fVar 1) fNil))) (gS1 2))
    (fRet (fIfE (fTst (fBin eqD (fBin itemD (fVar 0) (fC (.int 0))) (fC (.str "//")))) (fOwn divD c.Value (F_Value_UfloordivU c) noF (fVar 2) (fBin itemD (fVar 0) (fC (.int 2)))) (fMeth c.Value "rest" (F_Value_rest c) [false, false] (fVar 2) (fCons (fBin itemD (fVar 0) (fC (.int 2))) fNil))))) fSkip)
    (fSeq (fIf (fOrT (fTst (fBin eqD (fBin itemD (fBin itemD (fVar 0) (fC (.int 2))) (fC (.int 0))) (fC (.str "n")))) (fTst (fBin inF (fBin itemD (fVar 0) (fC (.int 0))) (fTup (fCons (fC (.str "=")) (fCons (fC (.str "<")) fNil)))))) (fRet (fCall (F_law_joined c) [false, false, false] (fCons (fBin itemD (fVar 0) (fC (.int 0))) (fCons (fCall F_law_built [false, false] (fCons (fBin itemD (fVar 0) (fC (.int 1))) (fCons (fVar 1) fNil))) (fCons (fCall F_law_side [false, false] (fCons (fBin itemD (fVar 0) (fC (.int 2))) (fCons (fVar 1) fNil))) fNil))))) fSkip)
    (fRet (fCall (F_law_joined c) [false, false, false] (fCons (fBin itemD (fVar 0) (fC (.int 0))) (fCons (fCall F_law_side [false, false] (fCons (fBin itemD (fVar 0) (fC (.int 1))) (fCons (fVar 1) fNil))) (fCons (fCall F_law_built [false, false] (fCons (fBin itemD (fVar 0) (fC (.int 2))) (fCons (fVar 1) fNil))) fNil)))))))))))
mutual
def F_law_side (c : Cl) : Nat → FF
  | 0 => noF
  | n + 1 => runF 2 0 (b_law_side c (F_law_side c n) (F_law_built c n))
def F_law_built (c : Cl) : Nat → FF
  | 0 => noF
  | n + 1 => runF 2 1 (b_law_built c (F_law_side c n) (F_law_built c n))
end
def b_law_leaf (c : Cl) : FS :=
    (fSeq (fIf (fTst (fBin eqD (fBin itemD (fVar 1) (fC (.int 0))) (fC (.str "n")))) (fSeq (fSet (fOO (fLst (fCons (fIfE (fTst (fBin ltD (fBin itemD (fVar 1) (fC (.int 1))) (fBin subD (fBin powD (fC (.int 10)) (fC (.int 20))) (fC (.int 1))))) (fBin addD (fBin itemD (fVar 1) (fC (.int 1))) (fC (.int 1))) (fC (.int 0))) (fCons (fNeg (fBin itemD (fVar 1) (fC (.int 1)))) (fCons (fBin divD (fBin itemD (fVar 1) (fC (.int 1))) (fC (.int 10))) fNil))))) (gS1 3))
    (fRet (fBin itemD (fOO (fLst (fCons (fTup (fCons (fC (.str "n")) (fCons (fBin itemD (fVar 3) (fCall (F_law_take c) [true, false] (fCons (fVar 0) (fCons (fC (.int 3)) fNil)))) fNil))) (fCons (fTup (fCons (fC (.str "g")) fNil)) fNil)))) (fCa intD (fCons (fBin eqD (fCall (F_law_take c) [true, false] (fCons (fVar 0) (fCons (fC (.int 4)) fNil))) (fC (.int 0))) fNil))))) fSkip)
    (fSeq (fIf (fTst (fBin eqD (fBin itemD (fVar 1) (fC (.int 0))) (fC (.str "g")))) (fRet (fBin itemD (fOO (fLst (fCons (fTup (fCons (fC (.str "n")) (fCons (fC (.int 0)) fNil))) (fCons (fTup (fCons (fC (.str "c")) (fCons (fBin itemD (fVar 2) (fC (.int 0))) fNil))) (fCons (fTup (fCons (fC (.str "w")) (fCons (fBin itemD (fVar 2) (fC (.int 0))) fNil))) fNil))))) (fCall (F_law_take c) [true, false] (fCons (fVar 0) (fCons (fC (.int 3)) fNil))))) fSkip)
    (fSeq (fSet (fBin itemD (fVar 2) (fCall (F_law_take c) [true, false] (fCons (fVar 0) (fCons (fCa lenD (fCons (fVar 2) fNil)) fNil)))) (gS1 4))
    (fSeq (fSet (fOO (fLst (fCons (fTup (fCons (fBin itemD (fVar 1) (fC (.int 0))) (fCons (fVar 4) fNil))) (fCons (fTup (fCons (fC (.str "c")) (fCons (fBin itemD (fVar 1) (fC (.int 1))) fNil))) (fCons (fTup (fCons (fC (.str "w")) (fCons (fBin itemD (fVar 1) (fC (.int 1))) fNil))) fNil))))) (gS1 3))
    (fRet (fBin itemD (fBin addD (fVar 3) (fOO (fLst (fCons (fTup (fCons (fC (.str "g")) fNil)) (fCons (fTup (fCons (fC (.str "n")) (fCons (fC (.int 1)) fNil))) fNil))))) (fCall (F_law_take c) [true, false] (fCons (fVar 0) (fCons (fC (.int 5)) fNil)))))))))
def F_law_leaf (c : Cl) : FF := runF 3 2 (b_law_leaf c)
def b_law_changed (c : Cl) (F_law_changed : FF) : FS :=
    (fSeq (fIf (fTst (fBin eqD (fCall (F_law_signs c 16) [false] (fCons (fVar 1) fNil)) (fC (.int 0)))) (fRet (fCall (F_law_leaf c) [true, false, false] (fCons (fVar 0) (fCons (fVar 1) (fCons (fVar 2) fNil))))) fSkip)
    (fSeq (fSetO 3 (fLc (fEnumT (fCons (fVar 1) fNil)) [4, 5] (gT1 2 (gC1 (gS1 4) (gC1 (gS1 5) gN0))) (fTst (isiD (isTy "tuple" [c.Value]) (fVar 5))) (fVar 4)))
    (fSeq (fIf (fTst (fBin gtD (fCall (F_law_take c) [true, false] (fCons (fVar 0) (fCons (fC (.int 4)) fNil))) (fC (.int 0)))) (fSeq (fSet (fBin itemD (fVar 3) (fCall (F_law_take c) [true, false] (fCons (fVar 0) (fCons (fCa lenD (fCons (fVar 3) fNil)) fNil)))) (gS1 6))
    (fSeq (fSet (fCall F_law_changed [true, false, false] (fCons (fVar 0) (fCons (fBin itemD (fVar 1) (fVar 6)) (fCons (fVar 2) fNil)))) (gS1 5))
    (fRet (fBin addD (fBin addD (fSl (fVar 1) fPN (fPS (fVar 6))) (fTup (fCons (fVar 5) fNil))) (fSl (fVar 1) (fPS (fBin addD (fVar 6) (fC (.int 1)))) fPN))))) fSkip)
    (fSeq (fIf (fTst (fBin eqD (fBin itemD (fVar 1) (fC (.int 0))) (fC (.str "~")))) (fRet (fBin itemD (fOO (fLst (fCons (fBin itemD (fVar 1) (fC (.int 1))) (fCons (fTup (fCons (fC (.str "~")) (fCons (fVar 1) fNil))) fNil)))) (fCall (F_law_take c) [true, false] (fCons (fVar 0) (fCons (fC (.int 2)) fNil))))) fSkip)
    (fSeq (fIf (fTst (fBin inF (fBin itemD (fVar 1) (fC (.int 0))) (fTup (fCons (fC (.str "//")) (fCons (fC (.str "mod")) fNil))))) (fSeq (fSet (fIfE (fTst (fBin eqD (fBin itemD (fVar 1) (fC (.int 0))) (fC (.str "//")))) (fC (.str "mod")) (fC (.str "//"))) (gS1 7))
    (fSeq (fSet (fIfE (fTst (fBin ltD (fBin itemD (fVar 1) (fC (.int 2))) (fBin subD (fBin powD (fC (.int 10)) (fC (.int 20))) (fC (.int 1))))) (fBin addD (fBin itemD (fVar 1) (fC (.int 2))) (fC (.int 1))) (fC (.int 1))) (gS1 8))
    (fSeq (fSetO 9 (fLst (fCons (fTup (fCons (fVar 7) (fCons (fBin itemD (fVar 1) (fC (.int 1))) (fCons (fBin itemD (fVar 1) (fC (.int 2))) fNil)))) (fCons (fBin itemD (fVar 1) (fC (.int 1))) fNil))))
    (fSeq (fApp 9 (fTup (fCons (fBin itemD (fVar 1) (fC (.int 0))) (fCons (fBin itemD (fVar 1) (fC (.int 1))) (fCons (fVar 8) fNil)))))
    (fRet (fBin itemD (fVar 9) (fCall (F_law_take c) [true, false] (fCons (fVar 0) (fCons (fC (.int 3)) fNil))))))))) fSkip)
    (fSeq (fSet (fBin itemD (fOO (fLst (fCons (fC (.str "+")) (fCons (fC (.str "-")) (fCons (fC (.str "*")) (fCons (fC (.str "&")) (fCons (fC (.str "|")) (fCons (fC (.str "=")) (fCons (fC (.str "<")) fNil))))))))) (fCall (F_law_take c) [true, false] (fCons (fVar 0) (fCons (fC (.int 7)) fNil)))) (gS1 10))
    (fSeq (fSetO 9 (fLst (fCons (fTup (fCons (fBin itemD (fVar 1) (fC (.int 0))) (fCons (fBin itemD (fVar 1) (fC (.int 2))) (fCons (fBin itemD (fVar 1) (fC (.int 1))) fNil)))) fNil)))
    (fSeq (fApp 9 (fTup (fCons (fVar 10) (fCons (fBin itemD (fVar 1) (fC (.int 1))) (fCons (fBin itemD (fVar 1) (fC (.int 2))) fNil)))))
    (fRet (fBin itemD (fBin addD (fVar 9) (fOO (fLst (fCons (fBin itemD (fVar 1) (fC (.int 1))) (fCons (fBin itemD (fVar 1) (fC (.int 2))) (fCons (fTup (fCons (fC (.str "~")) (fCons (fVar 1) fNil))) fNil)))))) (fCall (F_law_take c) [true, false] (fCons (fVar 0) (fCons (fC (.int 5)) fNil)))))))))))))
def F_law_changed (c : Cl) : Nat → FF
  | 0 => noF
  | n + 1 => runF 3 8 (b_law_changed c (F_law_changed c n))
def b_law_both (c : Cl) : FS :=
    (fRet (fCa reprF (fCons (fOO (fLst (fCons (fBin (eqR (eqFc c.Value (F_Value_UeqU c 16) noEq)) (fVar 0) (fVar 1)) (fCons (fBin (eqR (eqFc c.Value (F_Value_UeqU c 16) noEq)) (fVar 1) (fVar 0)) (fCons (fBin (neR (eqFc c.Value (F_Value_UeqU c 16) noEq)) (fVar 0) (fVar 1)) (fCons (fBin (neR (eqFc c.Value (F_Value_UeqU c 16) noEq)) (fVar 1) (fVar 0)) fNil)))))) fNil)))
def F_law_both (c : Cl) : FF := runF 2 0 (b_law_both c)
def b_law_fits (c : Cl) : FS :=
    (fSeq (fSet (fCall (F_law_cells c) [true, false] (fCons (fVar 0) (fCons (fBin addD (fC (.int 1)) (fCall (F_law_take c) [true, false] (fCons (fVar 0) (fCons (fC (.int 8)) fNil)))) fNil))) (gS1 1))
    (fSeq (fSet (fCall (F_law_recipe c 16) [true, false, false] (fCons (fVar 0) (fCons (fVar 1) (fCons (fCall (F_law_take c) [true, false] (fCons (fVar 0) (fCons (fBin itemD (fOO (fLst (fCons (fC (.int 9)) (fCons (fC (.int 13)) fNil)))) (fCall (F_law_take c) [true, false] (fCons (fVar 0) (fCons (fC (.int 2)) fNil)))) fNil))) fNil)))) (gS1 2))
    (fSeq (fSet (fCall (F_law_changed c 16) [true, false, false] (fCons (fVar 0) (fCons (fVar 2) (fCons (fVar 1) fNil)))) (gS1 3))
    (fSeq (fIf (fTst (fBin gtD (fCall (F_law_signs c 16) [false] (fCons (fVar 3) fNil)) (fC (.int 12)))) (fSet (fVar 2) (gS1 3)) fSkip)
    (fSeq (fSet (fCall (F_law_built c 30) [false, false] (fCons (fVar 2) (fCons (fCall (F_law_take c) [true, false] (fCons (fVar 0) (fCons (fC (.int 2)) fNil))) fNil))) (gS1 4))
    (fSeq (fSet (fCall (F_law_built c 30) [false, false] (fCons (fVar 3) (fCons (fCall (F_law_take c) [true, false] (fCons (fVar 0) (fCons (fC (.int 2)) fNil))) fNil))) (gS1 5))
    (fSeq (fSet (fTup (fCons (fCa reprF (fCons (fOO (fLst (fCons (fC (.bl true)) (fCons (fC (.bl true)) (fCons (fC (.bl false)) (fCons (fC (.bl false)) fNil)))))) fNil)) (fCons (fCa reprF (fCons (fOO (fLst (fCons (fC (.bl false)) (fCons (fC (.bl false)) (fCons (fC (.bl true)) (fCons (fC (.bl true)) fNil)))))) fNil)) fNil))) (gT1 2 (gC1 (gS1 6) (gC1 (gS1 7) gN0))))
    (fSeq (fSet (fIfE (fTst (fBin eqD (fVar 2) (fVar 3))) (fVar 6) (fVar 7)) (gS1 8))
    (fSeq (fIf (fOrT (fTst (fBin neD (fCall (F_law_both c) [false, false] (fCons (fVar 4) (fCons (fVar 5) fNil))) (fVar 8))) (fTst (fBin neD (fCall (F_law_both c) [false, false] (fCons (fVar 4) (fCons (fCall (F_law_built c 30) [false, false] (fCons (fVar 2) (fCons (fC (.int 0)) fNil))) fNil))) (fVar 6)))) (fRet (fC (.bl false))) fSkip)
    (fSeq (fIf (fOrT (fTst (fBin neD (fCall (F_law_both c) [false, false] (fCons (fInv c.Value (F_Value_UinvertU c) (fVar 4)) (fCons (fInv c.Value (F_Value_UinvertU c) (fVar 5)) fNil))) (fVar 8))) (fTst (fBin neD (fCall (F_law_both c) [false, false] (fCons (fMeth c.Value "rest" (F_Value_rest c) [false, false] (fVar 4) (fCons (fC (.int 3)) fNil)) (fCons (fMeth c.Value "rest" (F_Value_rest c) [false, false] (fVar 5) (fCons (fC (.int 3)) fNil)) fNil))) (fVar 8)))) (fRet (fC (.bl false))) fSkip)
    (fSeq (fSet (fOO (fLst (fCons (fC .non) (fCons (fC (.int 0)) (fCons (fC (.int 1)) (fCons (fC (.str "c")) (fCons (fBin itemD (fVar 1) (fC (.int 0))) (fCons (fOO (fLst (fCons (fVar 4) fNil))) (fCons (fTup (fCons (fVar 4) (fCons (fVar 5) fNil))) (fCons (fVar 1) (fCons (fOO fDict0) (fCons (fVar 2) fNil)))))))))))) (gS1 9))
    (fRet (fBin eqD (fOO (fLc (fIter (fVar 9)) [10] (gS1 10) (fTst (fBin neD (fCall (F_law_both c) [false, false] (fCons (fVar 4) (fCons (fVar 10) fNil))) (fVar 7))) (fC (.int 1)))) (fOO (fLst fNil)))))))))))))))
def F_law_fits (c : Cl) : FF := runF 1 10 (b_law_fits c)
def b_law (c : Cl) : FS :=
    (fSeq (fFor (fRng1 (fCons (fCa (i2D fun i j => if i < j then j else i) (fCons (fC (.int 1)) (fCons (fCa (i2D fun i j => if j < i then j else i) (fCons (fC (.int 24)) (fCons (fCa lenD (fCons (fVar 0) fNil)) fNil))) fNil))) fNil)) (gS1 1)
      (fSeq (fSetO 2 (fCallO (F_law_well c) [false, false] (fCons (fVar 0) (fCons (fVar 1) fNil))))
    (fFor (fRng1 (fCons (fC (.int 2)) fNil)) (gS1 3)
      (fIf (fNotT (fTst (fCall (F_law_fits c) [true] (fCons (fVar 2) fNil)))) (fRet (fC (.bl false))) fSkip))))
    (fRet (fC (.bl true))))
def F_law (c : Cl) : FF := runF 1 3 (b_law c)
end Lk
/-! values -/
namespace Lk
open PySem L2 DL
section
variable (c : Cl)
def mkV (s : Str) (x y : D) : D := .ins c.Value [("sign", .str s), ("first", x), ("second", y)]
/-- the signs of two parts -/
inductive Sn where
  | add | sub | mul | div | mod | and | or | eq | lt
def Sn.s : Sn → String
  | .add => "+" | .sub => "-" | .mul => "*" | .div => "//" | .mod => "mod" | .and => "&" | .or => "|" | .eq => "=" | .lt => "<"
inductive Vl where
  | named (x : Str) | now (x : Str) | passed | num (i : Int) | inv (v : Vl) | bin (s : Sn) (v w : Vl)
def Vl.d : Vl → D
  | .named x => mkV c "named" (.str x) .non
  | .now x => mkV c "now" (.str x) .non
  | .passed => mkV c "passed" .non .non
  | .num i => mkV c "number" (.int i) .non
  | .inv v => mkV c "~" v.d .non
  | .bin s v w => mkV c (Str.ofString s.s) v.d w.d
theorem d_ins (v : Vl) : ∃ s x y, v.d c = mkV c s x y := by cases v <;> exact ⟨_, _, _, rfl⟩
@[simp] theorem isOwn_d (no : List Addr) (v : Vl) : isOwn c.Value no (v.d c) = some true := by
  obtain ⟨s, x, y, e⟩ := d_ins c v
  rw [e]; simp [mkV]
@[simp] theorem isC_d (v : Vl) : isC c.Value (v.d c) = true := by
  obtain ⟨s, x, y, e⟩ := d_ins c v
  rw [e]; simp [mkV]
@[simp] theorem isI_d (v : Vl) : isI (v.d c) = false := by
  obtain ⟨s, x, y, e⟩ := d_ins c v
  rw [e]; rfl
theorem insOf_d (v : Vl) (m : String) (h1 : m ≠ "sign") (h2 : m ≠ "first") (h3 : m ≠ "second") : insOf c.Value (Str.ofString m) (v.d c) = true := by
  obtain ⟨s, x, y, e⟩ := d_ins c v
  rw [e]
  simp [mkV, List.lookup, h1, h2, h3]
/-- an operand: a value or an int -/
inductive Op where
  | v (x : Vl) | i (x : Int)
def Op.d : Op → D
  | .v x => x.d c
  | .i x => .int x
def Op.vl : Op → Vl
  | .v x => x
  | .i x => .num x
@[simp] theorem op_v (x : Vl) : Op.d c (.v x) = x.d c := rfl
@[simp] theorem op_i (x : Int) : Op.d c (.i x) = .int x := rfl
theorem init_eq (s : Str) (x y : D) : F_Value_UinitU c [.bw (.ins c.Value []), .fz (.str s), .fz x, .fz y] = .rt .non [mkV c s x y] := by
  simp [F_Value_UinitU, b_Value_UinitU, putD, mkV]
@[simp] theorem number_eq (i : Int) : F_number c [.fz (.int i)] = .ro ((Vl.num i).d c) [] := by
  simp [F_number, b_number, init_eq, Vl.d]
@[simp] theorem value_of_v (x : Vl) : F_value_of c [.fz (x.d c)] = .rt (x.d c) [] := by
  simp [F_value_of, b_value_of]
@[simp] theorem value_of_i (x : Int) : F_value_of c [.fz (.int x)] = .rt ((Vl.num x).d c) [] := by
  simp [F_value_of, b_value_of]
@[simp] theorem value_of_eq (o : Op) : F_value_of c [.fz (o.d c)] = .rt (o.vl.d c) [] := by
  cases o <;> simp [Op.vl]
@[simp] theorem add_eq (x : Vl) (o : Op) : F_Value_UaddU c [.fz (x.d c), .fz (o.d c)] = .ro ((Vl.bin .add x o.vl).d c) [] := by
  simp [F_Value_UaddU, b_Value_UaddU, init_eq, Vl.d, Sn.s]
@[simp] theorem add_v (x : Vl) (w : Vl) : F_Value_UaddU c [.fz (x.d c), .fz (w.d c)] = .ro ((Vl.bin .add x w).d c) [] := add_eq c x (.v w)
@[simp] theorem add_i (x : Vl) (w : Int) : F_Value_UaddU c [.fz (x.d c), .fz (.int w)] = .ro ((Vl.bin .add x (.num w)).d c) [] := add_eq c x (.i w)
@[simp] theorem radd_eq (x : Vl) (o : Op) : F_Value_UraddU c [.fz (x.d c), .fz (o.d c)] = .ro ((Vl.bin .add o.vl x).d c) [] := by
  simp [F_Value_UraddU, b_Value_UraddU, init_eq, Vl.d, Sn.s]
@[simp] theorem radd_v (x : Vl) (w : Vl) : F_Value_UraddU c [.fz (x.d c), .fz (w.d c)] = .ro ((Vl.bin .add w x).d c) [] := radd_eq c x (.v w)
@[simp] theorem radd_i (x : Vl) (w : Int) : F_Value_UraddU c [.fz (x.d c), .fz (.int w)] = .ro ((Vl.bin .add (.num w) x).d c) [] := radd_eq c x (.i w)
@[simp] theorem sub_eq (x : Vl) (o : Op) : F_Value_UsubU c [.fz (x.d c), .fz (o.d c)] = .ro ((Vl.bin .sub x o.vl).d c) [] := by
  simp [F_Value_UsubU, b_Value_UsubU, init_eq, Vl.d, Sn.s]
@[simp] theorem sub_v (x : Vl) (w : Vl) : F_Value_UsubU c [.fz (x.d c), .fz (w.d c)] = .ro ((Vl.bin .sub x w).d c) [] := sub_eq c x (.v w)
@[simp] theorem sub_i (x : Vl) (w : Int) : F_Value_UsubU c [.fz (x.d c), .fz (.int w)] = .ro ((Vl.bin .sub x (.num w)).d c) [] := sub_eq c x (.i w)
@[simp] theorem rsub_eq (x : Vl) (o : Op) : F_Value_UrsubU c [.fz (x.d c), .fz (o.d c)] = .ro ((Vl.bin .sub o.vl x).d c) [] := by
  simp [F_Value_UrsubU, b_Value_UrsubU, init_eq, Vl.d, Sn.s]
@[simp] theorem rsub_v (x : Vl) (w : Vl) : F_Value_UrsubU c [.fz (x.d c), .fz (w.d c)] = .ro ((Vl.bin .sub w x).d c) [] := rsub_eq c x (.v w)
@[simp] theorem rsub_i (x : Vl) (w : Int) : F_Value_UrsubU c [.fz (x.d c), .fz (.int w)] = .ro ((Vl.bin .sub (.num w) x).d c) [] := rsub_eq c x (.i w)
@[simp] theorem mul_eq (x : Vl) (o : Op) : F_Value_UmulU c [.fz (x.d c), .fz (o.d c)] = .ro ((Vl.bin .mul x o.vl).d c) [] := by
  simp [F_Value_UmulU, b_Value_UmulU, init_eq, Vl.d, Sn.s]
@[simp] theorem mul_v (x : Vl) (w : Vl) : F_Value_UmulU c [.fz (x.d c), .fz (w.d c)] = .ro ((Vl.bin .mul x w).d c) [] := mul_eq c x (.v w)
@[simp] theorem mul_i (x : Vl) (w : Int) : F_Value_UmulU c [.fz (x.d c), .fz (.int w)] = .ro ((Vl.bin .mul x (.num w)).d c) [] := mul_eq c x (.i w)
@[simp] theorem rmul_eq (x : Vl) (o : Op) : F_Value_UrmulU c [.fz (x.d c), .fz (o.d c)] = .ro ((Vl.bin .mul o.vl x).d c) [] := by
  simp [F_Value_UrmulU, b_Value_UrmulU, init_eq, Vl.d, Sn.s]
@[simp] theorem rmul_v (x : Vl) (w : Vl) : F_Value_UrmulU c [.fz (x.d c), .fz (w.d c)] = .ro ((Vl.bin .mul w x).d c) [] := rmul_eq c x (.v w)
@[simp] theorem rmul_i (x : Vl) (w : Int) : F_Value_UrmulU c [.fz (x.d c), .fz (.int w)] = .ro ((Vl.bin .mul (.num w) x).d c) [] := rmul_eq c x (.i w)
@[simp] theorem and_eq (x : Vl) (o : Op) : F_Value_UandU c [.fz (x.d c), .fz (o.d c)] = .ro ((Vl.bin .and x o.vl).d c) [] := by
  simp [F_Value_UandU, b_Value_UandU, init_eq, Vl.d, Sn.s]
@[simp] theorem and_v (x : Vl) (w : Vl) : F_Value_UandU c [.fz (x.d c), .fz (w.d c)] = .ro ((Vl.bin .and x w).d c) [] := and_eq c x (.v w)
@[simp] theorem and_i (x : Vl) (w : Int) : F_Value_UandU c [.fz (x.d c), .fz (.int w)] = .ro ((Vl.bin .and x (.num w)).d c) [] := and_eq c x (.i w)
@[simp] theorem rand_eq (x : Vl) (o : Op) : F_Value_UrandU c [.fz (x.d c), .fz (o.d c)] = .ro ((Vl.bin .and o.vl x).d c) [] := by
  simp [F_Value_UrandU, b_Value_UrandU, init_eq, Vl.d, Sn.s]
@[simp] theorem rand_v (x : Vl) (w : Vl) : F_Value_UrandU c [.fz (x.d c), .fz (w.d c)] = .ro ((Vl.bin .and w x).d c) [] := rand_eq c x (.v w)
@[simp] theorem rand_i (x : Vl) (w : Int) : F_Value_UrandU c [.fz (x.d c), .fz (.int w)] = .ro ((Vl.bin .and (.num w) x).d c) [] := rand_eq c x (.i w)
@[simp] theorem or_eq (x : Vl) (o : Op) : F_Value_UorU c [.fz (x.d c), .fz (o.d c)] = .ro ((Vl.bin .or x o.vl).d c) [] := by
  simp [F_Value_UorU, b_Value_UorU, init_eq, Vl.d, Sn.s]
@[simp] theorem or_v (x : Vl) (w : Vl) : F_Value_UorU c [.fz (x.d c), .fz (w.d c)] = .ro ((Vl.bin .or x w).d c) [] := or_eq c x (.v w)
@[simp] theorem or_i (x : Vl) (w : Int) : F_Value_UorU c [.fz (x.d c), .fz (.int w)] = .ro ((Vl.bin .or x (.num w)).d c) [] := or_eq c x (.i w)
@[simp] theorem ror_eq (x : Vl) (o : Op) : F_Value_UrorU c [.fz (x.d c), .fz (o.d c)] = .ro ((Vl.bin .or o.vl x).d c) [] := by
  simp [F_Value_UrorU, b_Value_UrorU, init_eq, Vl.d, Sn.s]
@[simp] theorem ror_v (x : Vl) (w : Vl) : F_Value_UrorU c [.fz (x.d c), .fz (w.d c)] = .ro ((Vl.bin .or w x).d c) [] := ror_eq c x (.v w)
@[simp] theorem ror_i (x : Vl) (w : Int) : F_Value_UrorU c [.fz (x.d c), .fz (.int w)] = .ro ((Vl.bin .or (.num w) x).d c) [] := ror_eq c x (.i w)
@[simp] theorem same_eq (x : Vl) (o : Op) : F_Value_same c [.fz (x.d c), .fz (o.d c)] = .ro ((Vl.bin .eq x o.vl).d c) [] := by
  simp [F_Value_same, b_Value_same, init_eq, Vl.d, Sn.s]
@[simp] theorem same_v (x : Vl) (w : Vl) : F_Value_same c [.fz (x.d c), .fz (w.d c)] = .ro ((Vl.bin .eq x w).d c) [] := same_eq c x (.v w)
@[simp] theorem same_i (x : Vl) (w : Int) : F_Value_same c [.fz (x.d c), .fz (.int w)] = .ro ((Vl.bin .eq x (.num w)).d c) [] := same_eq c x (.i w)
@[simp] theorem less_eq (x : Vl) (o : Op) : F_Value_less c [.fz (x.d c), .fz (o.d c)] = .ro ((Vl.bin .lt x o.vl).d c) [] := by
  simp [F_Value_less, b_Value_less, init_eq, Vl.d, Sn.s]
@[simp] theorem less_v (x : Vl) (w : Vl) : F_Value_less c [.fz (x.d c), .fz (w.d c)] = .ro ((Vl.bin .lt x w).d c) [] := less_eq c x (.v w)
@[simp] theorem less_i (x : Vl) (w : Int) : F_Value_less c [.fz (x.d c), .fz (.int w)] = .ro ((Vl.bin .lt x (.num w)).d c) [] := less_eq c x (.i w)
@[simp] theorem invert_eq (x : Vl) : F_Value_UinvertU c [.fz (x.d c)] = .ro ((Vl.inv x).d c) [] := by
  simp [F_Value_UinvertU, b_Value_UinvertU, init_eq, Vl.d]
@[simp] theorem passed_eq : F_passed c [] = .ro (Vl.passed.d c) [] := by
  simp [F_passed, b_passed, init_eq, Vl.d]
/-! ### names -/
def letters : Str := "abcdefghijklmnopqrstuvwxyz"
def isName (x : Str) : Bool := decide (1 ≤ x.length) && (decide (x.length ≤ 8) && x.cps.toList.all fun k => decide (k ∈ letters.cps.toList))
theorem is_name_eq (x : Str) (hx : x.length ≤ sizeLine) : F_is_name c [.fz (.str x)] = .rt (.bl (isName x)) [] := by
  have e1 := lcL_map (vs := [1]) (g := gS1 1) (m := fBin inF (fVar 1) (fC (.str letters))) (ρ := [some (.fz (.str x)), none]) x.cps.toList (fun k => .str ⟨#[k]⟩) (fun k => .bl (decide (k ∈ letters.cps.toList))) (by exact hx) fun k hk => by
    simp [inF, inB, and_assoc]
  have e2 : signs x = x.cps.toList.map fun k => D.str ⟨#[k]⟩ := rfl
  unfold letters at e1
  have e4 : letters = Str.ofString "abcdefghijklmnopqrstuvwxyz" := rfl
  unfold F_is_name b_is_name
  simp [hx]
  by_cases c1 : (1 : Int) ≤ (x.length : Int)
  · by_cases c2 : (x.length : Int) ≤ 8
    · have c3 : 1 ≤ x.length := by omega
      have c4 : x.length ≤ 8 := by omega
      simp [c1, c2, c3, c4, e2, e1, isName, List.all_map, Function.comp_def, letters]
    · have c4 : ¬ x.length ≤ 8 := by omega
      simp [c1, c2, c4, isName]
  · have c3 : ¬ 1 ≤ x.length := by omega
    simp [c1, c3, isName]
theorem check_name_eq (x : Str) (hx : x.length ≤ sizeLine) (h : isName x = true) : F_check_name c [.fz (.str x)] = .rt .non [] := by
  simp [F_check_name, b_check_name, is_name_eq c x hx, h]
theorem check_name_bad (x : Str) (hx : x.length ≤ sizeLine) (h : isName x = false) : F_check_name c [.fz (.str x)] = .ex c.InvalidName (.str x) [] := by
  simp [F_check_name, b_check_name, is_name_eq c x hx, h]
theorem named_eq (x : Str) (hx : x.length ≤ sizeLine) (h : isName x = true) : F_named c [.fz (.str x)] = .ro ((Vl.named x).d c) [] := by
  simp [F_named, b_named, check_name_eq c x hx h, init_eq, Vl.d]
theorem named_bad (x : Str) (hx : x.length ≤ sizeLine) (h : isName x = false) : F_named c [.fz (.str x)] = .ex c.InvalidName (.str x) [] := by
  simp [F_named, b_named, check_name_bad c x hx h]
theorem now_eq (x : Str) (hx : x.length ≤ sizeLine) (h : isName x = true) : F_now c [.fz (.str x)] = .ro ((Vl.now x).d c) [] := by
  simp [F_now, b_now, check_name_eq c x hx h, init_eq, Vl.d]
theorem now_bad (x : Str) (hx : x.length ≤ sizeLine) (h : isName x = false) : F_now c [.fz (.str x)] = .ex c.InvalidName (.str x) [] := by
  simp [F_now, b_now, check_name_bad c x hx h]
def Vl.dp : Vl → Nat
  | .inv v => v.dp + 1
  | .bin _ v w => max v.dp w.dp + 1
  | _ => 1
def Vl.lv : Vl → Nat
  | .inv v => v.lv
  | .bin _ v w => v.lv + w.lv
  | _ => 1
@[simp] theorem flat_str (x : Str) : flatD (.str x) = true := rfl
@[simp] theorem flat_int (x : Int) : flatD (.int x) = true := rfl
@[simp] theorem inD_nil (a : D) : inD a [] = false := rfl
@[simp] theorem inD_cons (x y : Str) (ds : List D) : inD (.str x) (.str y :: ds) = (decide (x = y) || inD (.str x) ds) := by
  unfold inD inV
  rw [List.map_cons, List.any_cons]
  congr 1
  show (y == x) = decide (x = y)
  by_cases h : x = y
  · subst h; simp
  · have h' : ¬ y = x := fun z => h z.symm
    simp [h, h']
end
end Lk
/-! the law's own draws -/
namespace Lk
open PySem L2 DL
/-- what a law draws from -/
structure Well where
  a : Int
  b : Int
  n : Int
def Well.d (w : Well) : D := .lst [.int w.a, .int w.b, .int w.n]
/-- k draws at most so far -/
def WOk (k : Nat) (w : Well) : Prop := 0 ≤ w.b ∧ w.b < 2 ^ 62 ∧ 0 ≤ w.n ∧ w.n ≤ k
theorem WOk.mono {k m : Nat} {w : Well} (h : WOk k w) (l : k ≤ m) : WOk m w := ⟨h.1, h.2.1, h.2.2.1, by have := h.2.2.2; omega⟩
theorem intBits_lt {i : Int} {n : Nat} (h : i.natAbs < 2 ^ n) : Builtin.Int.intBits i ≤ n := by
  unfold Builtin.Int.intBits
  split
  · omega
  · rename_i z
    have z' : i.natAbs ≠ 0 := by simpa using z
    have := (Nat.log2_lt z').mpr h
    omega
theorem mulOk_of {i j : Int} (h : i.natAbs < 2 ^ 64) : mulOk i j = true := mulOk_lit_l i j (intBits_lt h)
theorem mulOk_of' {i j : Int} (h : j.natAbs < 2 ^ 64) : mulOk i j = true := by
  have h' : ¬ (Builtin.Int.intBits j > shortFactorBits) := Nat.not_lt.mpr (intBits_lt h)
  unfold mulOk
  rw [decide_eq_false h']
  simp
theorem powOk {i : Int} (h : i.natAbs < 2 ^ 400) : (0 : Int) ≤ 3 ∧ (Builtin.Int.intBits i : Int) * 3 ≤ 134217728 := by
  have := intBits_lt h
  omega
section
variable (c : Cl)
theorem take_ok (w : Well) (k : Nat) (m : Int) (hw : WOk k w) (hk : k < 2 ^ 40) (hm : 0 < m) (hm2 : m.natAbs.log2 < 9000) : ∃ (t : Int) (w' : Well), F_law_take c [.bw w.d, .fz (.int m)] = .rt (.int t) [w'.d] ∧ 0 ≤ t ∧ t < m ∧ WOk (k + 1) w' := by
  obtain ⟨h1, h2, h3, h4⟩ := hw
  by_cases q : 0 < w.a
  · refine ⟨w.a % m, ⟨w.a / m, w.b, w.n⟩, ?_, Int.emod_nonneg _ (by omega), Int.emod_lt_of_pos _ hm, h1, h2, h3, by show w.n ≤ ((k + 1 : Nat) : Int); omega⟩
    simp [F_law_take, b_law_take, Well.d, q, hm, hm2]
  · have b1 : (w.b + 6700417 * (w.n + 1)).natAbs < 2 ^ 400 := by omega
    generalize ex : (w.b + 6700417 * (w.n + 1)) ^ 3 + 97 * (w.n + 1) = x
    have r1 := Int.emod_nonneg x (by decide : (2305843009213693951 : Int) ≠ 0)
    have r2 := Int.emod_lt_of_pos x (by decide : (0 : Int) < 2305843009213693951)
    have b2 : (x % 2305843009213693951 + 2971215073 * (w.n + 1)).natAbs < 2 ^ 400 := by omega
    have p1 := powOk b1
    have p2 := powOk b2
    generalize ey : (x % 2305843009213693951 + 2971215073 * (w.n + 1)) ^ 3 % 618970019642690137449562111 = y
    have m1 : mulOk 6700417 (w.n + 1) = true := mulOk_of (by decide)
    have m2 : mulOk 97 (w.n + 1) = true := mulOk_of (by decide)
    have m3 : mulOk 2971215073 (w.n + 1) = true := mulOk_of (by decide)
    refine ⟨(y / 131072) % m, ⟨w.a, w.b, w.n + 1⟩, ?_, Int.emod_nonneg _ (by omega), Int.emod_lt_of_pos _ hm, h1, h2, by show 0 ≤ w.n + 1; omega, by show w.n + 1 ≤ ((k + 1 : Nat) : Int); omega⟩
    have l1 : Nat.log2 131072 < 9000 := by decide
    simp [F_law_take, b_law_take, Well.d, q, hm, m1, m2, m3, powD, p1, ex, p2, ey, l1]
end
end Lk
namespace Lk
open PySem L2 DL
section
variable (c : Cl)
theorem dr (k : Nat) (wd : D) (m : Int) (h : ∃ w : Well, wd = w.d ∧ WOk k w) (hk : k < 2 ^ 40) (hm : 0 < m) (hm2 : m.natAbs.log2 < 9000) : ∃ (t : Int) (wd' : D), F_law_take c [.bw wd, .fz (.int m)] = .rt (.int t) [wd'] ∧ 0 ≤ t ∧ t < m ∧ ∃ w' : Well, wd' = w'.d ∧ WOk (k + 1) w' := by
  obtain ⟨w, rfl, hw⟩ := h
  obtain ⟨t, w', e, h1, h2, h3⟩ := take_ok c w k m hw hk hm hm2
  exact ⟨t, w'.d, e, h1, h2, w', rfl, h3⟩
theorem hl26 : letters.length = 26 := by decide +kernel
theorem s26 : letters.length ≤ sizeLine := by rw [hl26]; decide
theorem isName_of {x : Str} (h1 : 1 ≤ x.length) (h2 : x.length ≤ 8) (h3 : ∀ ch ∈ x.cps.toList, ch ∈ letters.cps.toList) : isName x = true := by
  simp only [isName, h1, h2, decide_true, Bool.true_and, List.all_eq_true]
  exact fun ch hc => decide_eq_true (h3 ch hc)
theorem letter_at {t : Int} (h0 : 0 ≤ t) (h1 : t < 26) : ∃ ch, letters.cps.toList[t.toNat]? = some ch ∧ ch ∈ letters.cps.toList := by
  have hl : letters.cps.toList.length = 26 := by rw [← len_cps]; exact hl26
  have ht : t.toNat < letters.cps.toList.length := by omega
  exact ⟨_, List.getElem?_eq_getElem ht, List.getElem_mem ht⟩
theorem cut_lo (z : Str) (n : Nat) : (cutS z none (some (n : Int))).cps.toList = z.cps.toList.take n := by
  unfold cutS
  rw [HT.sIx_none, HT.sIx_nat, List.drop_zero, List.toList_toArray, Nat.sub_zero, len_cps]
  by_cases h : n ≤ z.cps.toList.length
  · rw [Nat.min_eq_left h]
  · rw [Nat.min_eq_right (by omega), List.take_of_length_le (Nat.le_refl _), List.take_of_length_le (by omega)]
theorem cut_hi (z : Str) (n : Nat) : (cutS z (some (n : Int)) none).cps.toList = z.cps.toList.drop n := by
  unfold cutS
  rw [HT.sIx_none, HT.sIx_nat, List.toList_toArray, len_cps]
  by_cases h : n ≤ z.cps.toList.length
  · rw [Nat.min_eq_left h, List.take_of_length_le (by simp)]
  · rw [Nat.min_eq_right (by omega), List.drop_of_length_le (Nat.le_refl _), List.drop_of_length_le (by omega)]
    simp
theorem rep_one (ch : Nat) (k : Int) : (repS ⟨#[ch]⟩ k).cps.toList = List.replicate k.toNat ch := by
  have : ∀ n : Nat, (List.replicate n [ch]).flatten = List.replicate n ch := fun n => by
    induction n with
    | zero => rfl
    | succ n ih => simp [List.replicate_succ, ih]
  unfold repS
  exact this _
def words : List String := ["now", "on", "cells", "show", "named", "handler", "memo", "mod", "argument", "passed", "names", "present"]
theorem word_at {i : Nat} (h : i < 12) : ∃ x : Str, (words.map fun s => D.str (Str.ofString s))[i]? = some (.str x) ∧ isName x = true := by
  have hl : i < words.length := h
  refine ⟨Str.ofString words[i], by simp [hl], ?_⟩
  have : ∀ s ∈ words, isName (Str.ofString s) = true := by decide +kernel
  exact this _ (List.getElem_mem hl)
theorem s1000 : (1000 : Nat) ≤ sizeLine := by decide
theorem rng_n (n : Nat) : rngD 0 n = (List.range n).map fun i : Nat => D.int i := by simp [rngD]
theorem cells0 {r : DEnv} {n : Nat} (hn : n ≤ 12) (L : Str) (hL : L.length ≤ sizeLine) {t : Int} {ch : Nat} (h0 : 0 ≤ t) (hch : L.cps.toList[t.toNat]? = some ch) (a0 a1 a3 : Option DV) :
    lcL [5] (gS1 5) fYes (fBin mulD (fBin itemD (fVar 2) (fVar 4)) (fBin addD (fVar 5) (fC (.int 1)))) ((List.range n).map fun i : Nat => D.int i) [] (a0 :: a1 :: some (.fz (.str L)) :: a3 :: some (.fz (.int t)) :: none :: r) = .ok (.lst ((List.range n).map fun i : Nat => .str (repS ⟨#[ch]⟩ ((i : Int) + 1)))) (a0 :: a1 :: some (.fz (.str L)) :: a3 :: some (.fz (.int t)) :: none :: r) := by
  refine lcL_map (List.range n) (fun i : Nat => D.int i) (fun i : Nat => .str (repS ⟨#[ch]⟩ ((i : Int) + 1))) (Nat.le_trans (by simp; omega) s1000) fun i hi => ?_
  have hi5 : i < n := List.mem_range.mp hi
  have l1 : (⟨#[ch]⟩ : Str).length = 1 := rfl
  have em : mulD (.str ⟨#[ch]⟩) (.int ((i : Int) + 1)) = some (.str (repS ⟨#[ch]⟩ ((i : Int) + 1))) := mul_small (n := i + 1) (by rw [l1]; decide) (by omega) (by omega)
  have e1 : (fBin itemD (fVar 2) (fVar 4)) (a0 :: a1 :: some (.fz (.str L)) :: a3 :: some (.fz (.int t)) :: some (.fz (.int i)) :: r) = .ok (.val (.str ⟨#[ch]⟩)) (a0 :: a1 :: some (.fz (.str L)) :: a3 :: some (.fz (.int t)) :: some (.fz (.int i)) :: r) := by
    simp [itemD, hL, h0, hch]
  have e2 : (fBin addD (fVar 5) (fC (.int 1))) (a0 :: a1 :: some (.fz (.str L)) :: a3 :: some (.fz (.int t)) :: some (.fz (.int i)) :: r) = .ok (.val (.int ((i : Int) + 1))) (a0 :: a1 :: some (.fz (.str L)) :: a3 :: some (.fz (.int t)) :: some (.fz (.int i)) :: r) := by
    simp
  exact ⟨a0 :: a1 :: some (.fz (.str L)) :: a3 :: some (.fz (.int t)) :: some (.fz (.int i)) :: r, .val (.str (repS ⟨#[ch]⟩ ((i : Int) + 1))), a0 :: a1 :: some (.fz (.str L)) :: a3 :: some (.fz (.int t)) :: some (.fz (.int i)) :: r, a0 :: a1 :: some (.fz (.str L)) :: a3 :: some (.fz (.int t)) :: some (.fz (.int i)) :: r, by simp [wipeD], bin_val e1 e2 em, rfl, by simp [backD, keepFz]⟩
/-- words[int(at + k) % 12] -/
theorem cells1 {r : DEnv} {n : Nat} (hn : n ≤ 12) (W : List D) (f : Nat → D) {t : Int} (h0 : 0 ≤ t) (hf : ∀ i : Nat, i < n → W[((t + i) % 12).toNat]? = some (f i)) (a0 a1 a2 a3 : Option DV) :
    lcL [5] (gS1 5) fYes (fBin itemD (fVar 6) (fBin modD (fCa intD (fCons (fBin addD (fVar 4) (fVar 5)) fNil)) (fC (.int 12)))) ((List.range n).map fun i : Nat => D.int i) [] (a0 :: a1 :: a2 :: a3 :: some (.fz (.int t)) :: none :: some (.fz (.lst W)) :: r) = .ok (.lst ((List.range n).map f)) (a0 :: a1 :: a2 :: a3 :: some (.fz (.int t)) :: none :: some (.fz (.lst W)) :: r) := by
  refine lcL_map (List.range n) (fun i : Nat => D.int i) f (Nat.le_trans (by simp; omega) s1000) fun i hi => ?_
  have hi5 : i < n := List.mem_range.mp hi
  have hm := hf i hi5
  have hn : 0 ≤ (t + i) % 12 := Int.emod_nonneg _ (by decide)
  have e1 : (fBin modD (fCa intD (fCons (fBin addD (fVar 4) (fVar 5)) fNil)) (fC (.int 12))) (a0 :: a1 :: a2 :: a3 :: some (.fz (.int t)) :: some (.fz (.int i)) :: some (.fz (.lst W)) :: r) = .ok (.val (.int ((t + i) % 12))) (a0 :: a1 :: a2 :: a3 :: some (.fz (.int t)) :: some (.fz (.int i)) :: some (.fz (.lst W)) :: r) := by
    simp
  have e2 : (fBin itemD (fVar 6) (fBin modD (fCa intD (fCons (fBin addD (fVar 4) (fVar 5)) fNil)) (fC (.int 12)))) (a0 :: a1 :: a2 :: a3 :: some (.fz (.int t)) :: some (.fz (.int i)) :: some (.fz (.lst W)) :: r) = .ok (.val (f i)) (a0 :: a1 :: a2 :: a3 :: some (.fz (.int t)) :: some (.fz (.int i)) :: some (.fz (.lst W)) :: r) := by
    rw [fBin_s, show fVar 6 (a0 :: a1 :: a2 :: a3 :: some (.fz (.int t)) :: some (.fz (.int i)) :: some (.fz (.lst W)) :: r) = .ok (.sl 6) (a0 :: a1 :: a2 :: a3 :: some (.fz (.int t)) :: some (.fz (.int i)) :: some (.fz (.lst W)) :: r) from rfl, bind_ok, e1, bind_ok]
    show ob (some (D.lst W)) _ = _
    rw [ob_some]
    show ob (some (D.int _)) _ = _
    rw [ob_some, show itemD (.lst W) (.int ((t + i) % 12)) = L2.atI W ((t + i) % 12) from rfl, atI_pos _ _ hn, hm, ob_some]
  exact ⟨_, .val (f i), _, (a0 :: a1 :: a2 :: a3 :: some (.fz (.int t)) :: some (.fz (.int i)) :: some (.fz (.lst W)) :: r), by simp [wipeD], e2, rfl, by simp [backD, keepFz]⟩
theorem add_txt {a b : Str} (h : a.length + b.length ≤ sizeLine) : addD (.str a) (.str b) = some (.str (a ++ b)) := if_pos h
theorem cells2 {r : DEnv} {n : Nat} (hn : n ≤ 12) (L B : Str) (hL : L.length ≤ sizeLine) (hB : B.length ≤ 100) {t s p : Int} (sN : Nat) (hs : s = (sN : Int)) (g : Nat → Nat) (hp : p.natAbs < 100) (h0 : 0 ≤ t) (hg : ∀ i : Nat, i < n → L.cps.toList[((t + p * i) % 26).toNat]? = some (g i)) (a0 a1 a3 a6 a8 : Option DV) :
    lcL [5] (gS1 5) fYes (fBin addD (fBin addD (fSl (fVar 7) fPN (fPS (fVar 9))) (fBin itemD (fVar 2) (fBin modD (fCa intD (fCons (fBin addD (fVar 4) (fBin mulD (fVar 10) (fVar 5))) fNil)) (fC (.int 26))))) (fSl (fVar 7) (fPS (fBin addD (fVar 9) (fC (.int 1)))) fPN)) ((List.range n).map fun i : Nat => D.int i) [] (a0 :: a1 :: some (.fz (.str L)) :: a3 :: some (.fz (.int t)) :: none :: a6 :: some (.fz (.str B)) :: a8 :: some (.fz (.int s)) :: some (.fz (.int p)) :: r) =
      .ok (.lst ((List.range n).map fun i : Nat => .str (cutS B none (some s) ++ ⟨#[g i]⟩ ++ cutS B (some (s + 1)) none))) (a0 :: a1 :: some (.fz (.str L)) :: a3 :: some (.fz (.int t)) :: none :: a6 :: some (.fz (.str B)) :: a8 :: some (.fz (.int s)) :: some (.fz (.int p)) :: r) := by
  refine lcL_map (List.range n) (fun i : Nat => D.int i) (fun i : Nat => .str (cutS B none (some s) ++ ⟨#[g i]⟩ ++ cutS B (some (s + 1)) none)) (Nat.le_trans (by simp; omega) s1000) fun i hi => ?_
  have hi5 : i < n := List.mem_range.mp hi
  have hm := hg i hi5
  have hn : 0 ≤ (t + p * i) % 26 := Int.emod_nonneg _ (by decide)
  have hBl : B.length ≤ sizeLine := Nat.le_trans hB (Nat.le_trans (by decide) s1000)
  have mk : mulOk p i = true := mulOk_of (by omega)
  have c1 := cutS_length B none (some s)
  have c2 := cutS_length B (some (s + 1)) none
  have l1 : ∀ ch : Nat, (⟨#[ch]⟩ : Str).length = 1 := fun _ => rfl
  have h1 : addD (.str (cutS B none (some s))) (.str ⟨#[g i]⟩) = some (.str (cutS B none (some s) ++ ⟨#[g i]⟩)) := add_txt (Nat.le_trans (by rw [l1]; omega) s1000)
  have h2 : addD (.str (cutS B none (some s) ++ ⟨#[g i]⟩)) (.str (cutS B (some (s + 1)) none)) = some (.str (cutS B none (some s) ++ ⟨#[g i]⟩ ++ cutS B (some (s + 1)) none)) := add_txt (Nat.le_trans (by rw [app_len, l1]; omega) s1000)
  generalize hρ : (a0 :: a1 :: some (.fz (.str L)) :: a3 :: some (.fz (.int t)) :: some (.fz (.int i)) :: a6 :: some (.fz (.str B)) :: a8 :: some (.fz (.int s)) :: some (.fz (.int p)) :: r : DEnv) = ρ
  have e1 : fSl (fVar 7) fPN (fPS (fVar 9)) ρ = .ok (.val (.str (cutS B none (some s)))) ρ := by subst hρ; simp [hBl]
  have e2 : fSl (fVar 7) (fPS (fBin addD (fVar 9) (fC (.int 1)))) fPN ρ = .ok (.val (.str (cutS B (some (s + 1)) none))) ρ := by subst hρ; simp [hBl]
  have e3 : (fBin modD (fCa intD (fCons (fBin addD (fVar 4) (fBin mulD (fVar 10) (fVar 5))) fNil)) (fC (.int 26))) ρ = .ok (.val (.int ((t + p * i) % 26))) ρ := by subst hρ; simp [mk]
  have e4 : fBin itemD (fVar 2) (fBin modD (fCa intD (fCons (fBin addD (fVar 4) (fBin mulD (fVar 10) (fVar 5))) fNil)) (fC (.int 26))) ρ = .ok (.val (.str ⟨#[g i]⟩)) ρ := by
    have ev : fVar 2 ρ = .ok (.sl 2) ρ := by subst hρ; rfl
    have eg : Rf.get ρ (.sl 2) = some (.str L) := by subst hρ; rfl
    rw [fBin_s, ev, bind_ok, e3, bind_ok, eg, ob_some]
    show ob (some (D.int _)) _ = _
    rw [ob_some, show itemD (.str L) (.int ((t + p * i) % 26)) = (if L.length ≤ sizeLine then (L2.atI L.cps.toList ((t + p * i) % 26)).map fun k => .str ⟨#[k]⟩ else none) from rfl, if_pos hL, atI_pos _ _ hn, hm]
    rfl
  refine ⟨ρ, .val (.str (cutS B none (some s) ++ ⟨#[g i]⟩ ++ cutS B (some (s + 1)) none)), ρ, ρ, by subst hρ; simp [wipeD], bin_val (bin_val e1 e4 h1) e2 h2, rfl, by subst hρ; simp [backD, keepFz]⟩
theorem le_ : Str.ofString "abcdefghijklmnopqrstuvwxyz" = letters := rfl
theorem nm_rep {ch : Nat} (hm : ch ∈ letters.cps.toList) (i : Nat) (hi : i < 8) : isName (repS ⟨#[ch]⟩ ((i : Int) + 1)) = true := by
  have hc := rep_one ch ((i : Int) + 1)
  have ht : ((i : Int) + 1).toNat = i + 1 := by omega
  rw [ht] at hc
  refine isName_of (by rw [len_cps, hc, List.length_replicate]; omega) (by rw [len_cps, hc, List.length_replicate]; omega) fun y hy => ?_
  rw [hc] at hy
  rw [(List.mem_replicate.mp hy).2]; exact hm
theorem nm_cut {B : Str} {s : Int} (sN : Nat) (hs : s = (sN : Int)) (h1 : sN < B.length) (h2 : B.length ≤ 8) (hB : ∀ ch ∈ B.cps.toList, ch ∈ letters.cps.toList) {ch : Nat} (hm : ch ∈ letters.cps.toList) : isName (cutS B none (some s) ++ ⟨#[ch]⟩ ++ cutS B (some (s + 1)) none) = true := by
  subst hs
  have e : (cutS B none (some (sN : Int)) ++ ⟨#[ch]⟩ ++ cutS B (some ((sN : Int) + 1)) none).cps.toList = B.cps.toList.take sN ++ [ch] ++ B.cps.toList.drop (sN + 1) := by
    have := cut_hi B (sN + 1)
    rw [show (((sN + 1 : Nat) : Int)) = (sN : Int) + 1 from by omega] at this
    rw [app_cps, app_cps, cut_lo, this]
  have hl : B.cps.toList.length = B.length := (len_cps B).symm
  have h1' : sN < B.cps.size := h1
  have h2' : B.cps.size ≤ 8 := h2
  refine isName_of (by rw [len_cps, e]; simp; omega) (by rw [len_cps, e]; simp; omega) fun y hy => ?_
  rw [e] at hy
  simp only [List.mem_append, List.mem_singleton] at hy
  rcases hy with (hy | hy) | hy
  · exact hB y (List.mem_of_mem_take hy)
  · rw [hy]; exact hm
  · exact hB y (List.mem_of_mem_drop hy)
end
end Lk
namespace Lk
open PySem L2 DL
section
variable (c : Cl)
theorem cells_ok (w : Well) (k : Nat) (hw : WOk k w) (hk : k + 40 < 2 ^ 40) (m : Nat) (hm0 : 1 ≤ m) (hm : m ≤ 8) : ∃ (xs : List Str) (w' : Well), F_law_cells c [.bw w.d, .fz (.int m)] = .ro (.lst (xs.map D.str)) [w'.d] ∧ xs.length = m ∧ (∀ x ∈ xs, isName x = true) ∧ WOk (k + 20) w' := by
  obtain ⟨way, w1, e1, a1, a2, k1⟩ := take_ok c w k 4 hw (by omega) (by decide) (by decide)
  obtain ⟨at_, w2, e2, b1, b2, k2⟩ := take_ok c w1 (k + 1) 26 k1 (by omega) (by decide) (by decide)
  have S1 : fSet (fTup (fCons (fC (.str "abcdefghijklmnopqrstuvwxyz")) (fCons (fCall (F_law_take c) [true, false] (fCons (fVar 0) (fCons (fC (.int 4)) fNil))) (fCons (fCall (F_law_take c) [true, false] (fCons (fVar 0) (fCons (fC (.int 26)) fNil))) fNil)))) (gT1 3 (gC1 (gS1 2) (gC1 (gS1 3) (gC1 (gS1 4) gN0)))) [some (.bw w.d), some (.fz (.int m)), none, none, none, none, none, none, none, none, none] = .nx [some (.bw w2.d), some (.fz (.int m)), some (.fz (.str letters)), some (.fz (.int way)), some (.fz (.int at_)), none, none, none, none, none, none] := by
    simp [e1, e2, le_]
  have S5 : fRng1 (fCons (fVar 1) fNil) [some (.bw w2.d), some (.fz (.int m)), some (.fz (.str letters)), some (.fz (.int way)), some (.fz (.int at_)), none, none, none, none, none, none] = .ok ((List.range m).map fun i : Nat => D.int i) [some (.bw w2.d), some (.fz (.int m)), some (.fz (.str letters)), some (.fz (.int way)), some (.fz (.int at_)), none, none, none, none, none, none] := by
    rw [← rng_n]; exact rng_sl rfl (by omega)
  have run : F_law_cells c [.bw w.d, .fz (.int m)] = Z.fin [.bw w.d, .fz (.int m)] (b_law_cells c [some (.bw w.d), some (.fz (.int m)), none, none, none, none, none, none, none, none, none]) := by
    unfold F_law_cells
    rw [runF_s, if_pos (by simp)]
    rfl
  rw [run]
  unfold b_law_cells
  rw [seq_e, S1, seq_nx, seq_e]
  by_cases q0 : way = 0 ∧ m < 9
  · obtain ⟨q0, q9⟩ := q0
    have q9' : (m : Int) < 9 := by omega
    rw [fif_t (ρ' := [some (.bw w2.d), some (.fz (.int m)), some (.fz (.str letters)), some (.fz (.int way)), some (.fz (.int at_)), none, none, none, none, none, none]) (by simp [q0, q9'])]
    obtain ⟨ch, hch, hmm⟩ := letter_at b1 b2
    have e3 := cells0 (r := [none, none, none, none, none]) (n := m) (by omega) letters s26 b1 hch (some (.bw w2.d)) (some (.fz (.int m))) (some (.fz (.int way)))
    rw [freto_v ((flc_v S5).trans e3), seq_ro]
    refine ⟨(List.range m).map fun i : Nat => repS ⟨#[ch]⟩ ((i : Int) + 1), w2, by simp, by simp, fun x hx => ?_, k2.mono (by omega)⟩
    obtain ⟨i, hi, rfl⟩ := List.mem_map.mp hx
    exact nm_rep hmm i (by have := List.mem_range.mp hi; omega)
  · rw [fif_f (ρ' := [some (.bw w2.d), some (.fz (.int m)), some (.fz (.str letters)), some (.fz (.int way)), some (.fz (.int at_)), none, none, none, none, none, none]) (by
      have : ¬ way = 0 := fun z => q0 ⟨z, by omega⟩
      simp [this])]
    rw [show fSkip [some (.bw w2.d), some (.fz (.int m)), some (.fz (.str letters)), some (.fz (.int way)), some (.fz (.int at_)), none, none, none, none, none, none] = .nx [some (.bw w2.d), some (.fz (.int m)), some (.fz (.str letters)), some (.fz (.int way)), some (.fz (.int at_)), none, none, none, none, none, none] from rfl, seq_nx, seq_e]
    by_cases q1 : way = 1
    · rw [fif_t (ρ' := [some (.bw w2.d), some (.fz (.int m)), some (.fz (.str letters)), some (.fz (.int way)), some (.fz (.int at_)), none, none, none, none, none, none]) (by simp [q1])]
      have s12 : (12 : Nat) ≤ sizeLine := Nat.le_trans (by decide) s1000
      have W1 : fSet (fOO (fLst (fCons (fC (.str "now")) (fCons (fC (.str "on")) (fCons (fC (.str "cells")) (fCons (fC (.str "show")) (fCons (fC (.str "named")) (fCons (fC (.str "handler")) fNil)))))))) (gS1 6) [some (.bw w2.d), some (.fz (.int m)), some (.fz (.str letters)), some (.fz (.int way)), some (.fz (.int at_)), none, none, none, none, none, none] = .nx [some (.bw w2.d), some (.fz (.int m)), some (.fz (.str letters)), some (.fz (.int way)), some (.fz (.int at_)), none, some (.fz (.lst [.str "now", .str "on", .str "cells", .str "show", .str "named", .str "handler"])), none, none, none, none] := by simp
      have W2 : fSet (fBin addD (fVar 6) (fOO (fLst (fCons (fC (.str "memo")) (fCons (fC (.str "mod")) (fCons (fC (.str "argument")) (fCons (fC (.str "passed")) (fCons (fC (.str "names")) (fCons (fC (.str "present")) fNil))))))))) (gS1 6) [some (.bw w2.d), some (.fz (.int m)), some (.fz (.str letters)), some (.fz (.int way)), some (.fz (.int at_)), none, some (.fz (.lst [.str "now", .str "on", .str "cells", .str "show", .str "named", .str "handler"])), none, none, none, none] = .nx [some (.bw w2.d), some (.fz (.int m)), some (.fz (.str letters)), some (.fz (.int way)), some (.fz (.int at_)), none, some (.fz (.lst (words.map fun s => D.str (Str.ofString s)))), none, none, none, none] := by simp [words, s12]
      have S6 : fRng1 (fCons (fVar 1) fNil) [some (.bw w2.d), some (.fz (.int m)), some (.fz (.str letters)), some (.fz (.int way)), some (.fz (.int at_)), none, some (.fz (.lst (words.map fun s => D.str (Str.ofString s)))), none, none, none, none] = .ok ((List.range m).map fun i : Nat => D.int i) [some (.bw w2.d), some (.fz (.int m)), some (.fz (.str letters)), some (.fz (.int way)), some (.fz (.int at_)), none, some (.fz (.lst (words.map fun s => D.str (Str.ofString s)))), none, none, none, none] := by
        rw [← rng_n]; exact rng_sl rfl (by omega)
      have hf : ∀ i : Nat, ∃ x : Str, (words.map fun s => D.str (Str.ofString s))[((at_ + i) % 12).toNat]? = some (.str x) ∧ isName x = true := fun i => word_at (by
        have := Int.emod_nonneg (at_ + i) (by decide : (12 : Int) ≠ 0)
        have := Int.emod_lt_of_pos (at_ + i) (by decide : (0 : Int) < 12)
        omega)
      have e3 := cells1 (r := [none, none, none, none]) (n := m) (by omega) (words.map fun s => D.str (Str.ofString s)) (fun i => .str (hf i).choose) b1 (fun i _ => (hf i).choose_spec.1) (some (.bw w2.d)) (some (.fz (.int m))) (some (.fz (.str letters))) (some (.fz (.int way)))
      rw [seq_e, W1, seq_nx, seq_e, W2, seq_nx, freto_v ((flc_v S6).trans e3), seq_ro]
      refine ⟨(List.range m).map fun i => (hf i).choose, w2, by simp [Function.comp_def], by simp, fun x hx => ?_, k2.mono (by omega)⟩
      obtain ⟨i, hi, rfl⟩ := List.mem_map.mp hx
      exact (hf i).choose_spec.2
    · rw [fif_f (ρ' := [some (.bw w2.d), some (.fz (.int m)), some (.fz (.str letters)), some (.fz (.int way)), some (.fz (.int at_)), none, none, none, none, none, none]) (by simp [q1])]
      rw [show fSkip [some (.bw w2.d), some (.fz (.int m)), some (.fz (.str letters)), some (.fz (.int way)), some (.fz (.int at_)), none, none, none, none, none, none] = .nx [some (.bw w2.d), some (.fz (.int m)), some (.fz (.str letters)), some (.fz (.int way)), some (.fz (.int at_)), none, none, none, none, none, none] from rfl, seq_nx]
      obtain ⟨n0, w3, e3, n0_, n8, k3⟩ := take_ok c w2 (k + 2) 8 k2 (by omega) (by decide) (by decide)
      obtain ⟨n, rfl⟩ := Int.eq_ofNat_of_zero_le n0_
      have hl : (rngD 0 (1 + n)).length = 1 + n := by simp [rngD]
      obtain ⟨ys, wd4, e4, y1, y2, w4, rfl, k4⟩ := txt_comp (P := fun k wd => ∃ w : Well, wd = w.d ∧ WOk k w) (lim := 2 ^ 40) (dr c) letters 26 (by decide) (by rw [hl26]; decide) (by rw [hl26]; decide) (r := [some (.fz (.int m)), some (.fz (.str letters)), some (.fz (.int way)), some (.fz (.int at_)), none, none, none, none, none, none]) (i := 7) (j := 1) rfl rfl (by decide) (M := fC (.int 26)) (fun ρ' _ => rfl) (rngD 0 (1 + n)) (by omega) (k + 3) w3.d ⟨w3, rfl, k3⟩ (by omega)
      obtain ⟨j1, j2, j3⟩ := join_one y2
      have S7 : (fJoin (fC (.str "")) (fOO (fLc (fRng1 (fCons (fBin addD (fC (.int 1)) (fCall (F_law_take c) [true, false] (fCons (fVar 0) (fCons (fC (.int 8)) fNil)))) fNil)) [8] (gS1 8) fYes (fBin itemD (fVar 2) (fCall (F_law_take c) [true, false] (fCons (fVar 0) (fCons (fC (.int 26)) fNil))))))) [some (.bw w2.d), some (.fz (.int m)), some (.fz (.str letters)), some (.fz (.int way)), some (.fz (.int at_)), none, none, none, none, none, none] = .ok (.val (.str (Txt.join (Str.ofString "") ys))) [some (.bw w4.d), some (.fz (.int m)), some (.fz (.str letters)), some (.fz (.int way)), some (.fz (.int at_)), none, none, none, none, none, none] :=
        join_v (foo_v ((flc_v (rng_v (n := 1 + n) (bin_v rfl (draw_v e3) (by show some (D.int (1 + (n : Int))) = _; rw [show (((1 + n : Nat)) : Int) = 1 + (n : Int) by omega])) (by omega))).trans e4)) (by rw [j3]; omega)
      rw [seq_e, fset_v S7, seq_nx]
      simp only [List.set_cons_succ, List.set_cons_zero]
      clear S7 S1 S5 run
      generalize Txt.join (Str.ofString "") ys = B at *
      have bl : B.length = 1 + n := by omega
      have hBl : B.length ≤ sizeLine := Nat.le_trans (by omega) s1000
      obtain ⟨s, w5, e5, s0, s1, k5⟩ := take_ok c w4 (k + 11) B.length (k4.mono (by omega)) (by omega) (by omega) (Nat.lt_of_le_of_lt (Nat.log2_le_self _) (by omega))
      obtain ⟨q, w6, e6, q2, q3, k6⟩ := take_ok c w5 (k + 12) 5 k5 (by omega) (by decide) (by decide)
      obtain ⟨p, hp, hp1, hp2⟩ : ∃ p : Int, [D.int 1, D.int 3, D.int 5, D.int 7, D.int 11][q.toNat]? = some (.int p) ∧ 0 ≤ p ∧ p < 100 := by
        rcases (by omega : q = 0 ∨ q = 1 ∨ q = 2 ∨ q = 3 ∨ q = 4) with rfl | rfl | rfl | rfl | rfl
        · exact ⟨1, rfl, by omega, by omega⟩
        · exact ⟨3, rfl, by omega, by omega⟩
        · exact ⟨5, rfl, by omega, by omega⟩
        · exact ⟨7, rfl, by omega, by omega⟩
        · exact ⟨11, rfl, by omega, by omega⟩
      have hg : ∀ i : Nat, ∃ ch, letters.cps.toList[((at_ + p * i) % 26).toNat]? = some ch ∧ ch ∈ letters.cps.toList := fun i => letter_at (Int.emod_nonneg _ (by decide)) (Int.emod_lt_of_pos _ (by decide))
      have hs : s = (s.toNat : Int) := by omega
      have S8 : fSet (fTup (fCons (fCall (F_law_take c) [true, false] (fCons (fVar 0) (fCons (fCa lenD (fCons (fVar 7) fNil)) fNil))) (fCons (fBin itemD (fOO (fLst (fCons (fC (.int 1)) (fCons (fC (.int 3)) (fCons (fC (.int 5)) (fCons (fC (.int 7)) (fCons (fC (.int 11)) fNil))))))) (fCall (F_law_take c) [true, false] (fCons (fVar 0) (fCons (fC (.int 5)) fNil)))) fNil))) (gT1 2 (gC1 (gS1 9) (gC1 (gS1 10) gN0))) [some (.bw w4.d), some (.fz (.int m)), some (.fz (.str letters)), some (.fz (.int way)), some (.fz (.int at_)), none, none, some (.fz (.str B)), none, none, none] = .nx [some (.bw w6.d), some (.fz (.int m)), some (.fz (.str letters)), some (.fz (.int way)), some (.fz (.int at_)), none, none, some (.fz (.str B)), none, some (.fz (.int s)), some (.fz (.int p))] := by
        simp [hBl, e5, e6, q2, hp]
      have S9 : fRng1 (fCons (fVar 1) fNil) [some (.bw w6.d), some (.fz (.int m)), some (.fz (.str letters)), some (.fz (.int way)), some (.fz (.int at_)), none, none, some (.fz (.str B)), none, some (.fz (.int s)), some (.fz (.int p))] = .ok ((List.range m).map fun i : Nat => D.int i) [some (.bw w6.d), some (.fz (.int m)), some (.fz (.str letters)), some (.fz (.int way)), some (.fz (.int at_)), none, none, some (.fz (.str B)), none, some (.fz (.int s)), some (.fz (.int p))] := by
        rw [← rng_n]; exact rng_sl rfl (by omega)
      have e7 := cells2 (r := []) (n := m) (by omega) letters B s26 (by omega) s.toNat hs (fun i => (hg i).choose) (by omega) b1 (fun i _ => (hg i).choose_spec.1) (some (.bw w6.d)) (some (.fz (.int m))) (some (.fz (.int way))) none none (p := p)
      rw [seq_e, S8, seq_nx, freto_v ((flc_v S9).trans e7)]
      refine ⟨(List.range m).map fun i : Nat => cutS B none (some s) ++ ⟨#[(hg i).choose]⟩ ++ cutS B (some (s + 1)) none, w6, by simp [Function.comp_def], by simp, fun x hx => ?_, k6.mono (by omega)⟩
      obtain ⟨i, hi, rfl⟩ := List.mem_map.mp hx
      exact nm_cut s.toNat hs (by omega) (by omega) j2 (hg i).choose_spec.2
end
end Lk
namespace Lk
open PySem L2 DL
/-- what a law builds values of -/
inductive Rc where
  | g | n (i : Int) | c (x : Str) | w (x : Str) | inv (r : Rc) | dv (md : Bool) (r : Rc) (k : Int) | op (s : Sn) (r q : Rc)
def Rc.d : Rc → D
  | .g => .tup [.str "g"]
  | .n i => .tup [.str "n", .int i]
  | .c x => .tup [.str "c", .str x]
  | .w x => .tup [.str "w", .str x]
  | .inv r => .tup [.str "~", r.d]
  | .dv md r k => .tup [.str (if md = true then "mod" else "//"), r.d, .int k]
  | .op s r q => .tup [.str (Str.ofString s.s), r.d, q.d]
def Rc.sg : Rc → Nat
  | .inv r => r.sg + 1
  | .dv _ r _ => r.sg + 1
  | .op _ r q => r.sg + q.sg + 1
  | _ => 0
def Rc.v : Rc → Vl
  | .g => .passed
  | .n i => .num i
  | .c x => .named x
  | .w x => .now x
  | .inv r => .inv r.v
  | .dv md r k => .bin (if md = true then .mod else .div) r.v (.num k)
  | .op s r q => .bin s r.v q.v
/-- the names are xs' -/
def Rc.good (xs : List Str) : Rc → Prop
  | .g => True
  | .n i => True
  | .c x => x ∈ xs
  | .w x => x ∈ xs
  | .inv r => r.good xs
  | .dv _ r k => r.good xs ∧ 1 ≤ k ∧ True
  | .op s r q => r.good xs ∧ q.good xs ∧ s ≠ .div ∧ s ≠ .mod
theorem rc_dp : ∀ r : Rc, r.v.dp ≤ r.sg + 1
  | .g => Nat.le_refl _
  | .n _ => Nat.le_refl _
  | .c _ => Nat.le_refl _
  | .w _ => Nat.le_refl _
  | .inv r => by have := rc_dp r; simp only [Rc.v, Vl.dp, Rc.sg]; omega
  | .dv md r k => by have := rc_dp r; simp only [Rc.v, Vl.dp, Rc.sg]; omega
  | .op s r q => by have := rc_dp r; have := rc_dp q; simp only [Rc.v, Vl.dp, Rc.sg]; omega
theorem rc_lv : ∀ r : Rc, r.v.lv ≤ r.sg + 1
  | .g => Nat.le_refl _
  | .n _ => Nat.le_refl _
  | .c _ => Nat.le_refl _
  | .w _ => Nat.le_refl _
  | .inv r => by have := rc_lv r; simp only [Rc.v, Vl.lv, Rc.sg]; omega
  | .dv md r k => by have := rc_lv r; simp only [Rc.v, Vl.lv, Rc.sg]; omega
  | .op s r q => by have := rc_lv r; have := rc_lv q; simp only [Rc.v, Vl.lv, Rc.sg]; omega
theorem strOk_name {x : Str} (h : isName x = true) : PyData.strOk x = true := by
  have hl : ∀ ch ∈ letters.cps.toList, ch < 1114112 := by decide +kernel
  unfold PyData.strOk
  rw [← Array.all_toList, List.all_eq_true]
  intro ch hc
  simp only [isName, Bool.and_eq_true, List.all_eq_true] at h
  exact decide_eq_true (hl ch (of_decide_eq_true (h.2.2 ch hc)))
theorem lst_ne (xs : List Str) (hx : xs ≠ []) (hn : ∀ x ∈ xs, isName x = true) : eqD (.lst (xs.map D.str)) (.lst []) = some (.bl false) := by
  have hp : plain 64 (.lst (xs.map D.str)) = true := plain_lst 63 _ fun d hd => by
    obtain ⟨k, hk, rfl⟩ := List.mem_map.mp hd
    simpa [DL.plain] using strOk_name (hn k hk)
  show (if plain 64 _ = true ∧ plain 64 (.lst []) = true then some (D.bl (PyData.eqv (py _) (py (.lst [])))) else none) = _
  rw [if_pos ⟨hp, rfl⟩]
  cases xs with
  | nil => exact absurd rfl hx
  | cons y ys => simp [py, pys, PyData.eqv, PyData.eqvAll]
section
variable (c : Cl)
theorem integer_ok (w : Well) (k : Nat) (hw : WOk k w) (hk : k + 10 < 2 ^ 40) : ∃ (i : Int) (w' : Well), F_law_integer c [.bw w.d] = .rt (.int i) [w'.d] ∧ True ∧ WOk (k + 5) w' := by
  obtain ⟨a, w1, e1, a0, a1, k1⟩ := take_ok c w k 7 hw (by omega) (by decide) (by decide)
  obtain ⟨b, w2, e2, b0, b1, k2⟩ := take_ok c w1 (k + 1) 2001 k1 (by omega) (by decide) (by decide)
  obtain ⟨d, w3, e3, d0, d1, k3⟩ := take_ok c w2 (k + 2) 21 k2 (by omega) (by decide) (by decide)
  obtain ⟨u, w4, e4, u0, u1, k4⟩ := take_ok c w3 (k + 3) 199999999999999999999 k3 (by omega) (by decide) (by decide)
  obtain ⟨s, w5, e5, s0, s1, k5⟩ := take_ok c w4 (k + 4) 4 k4 (by omega) (by decide) (by decide)
  have mk : mulOk 2 100000000000000000000 = true := by decide
  have s4 : (4 : Nat) ≤ sizeLine := Nat.le_trans (by decide) s1000
  obtain ⟨i, hi⟩ : ∃ i : Int, [D.int (a - 3), D.int (b - 1000), D.int (d - 10), D.int (u - 100000000000000000000 + 1)][s.toNat]? = some (.int i) := by
    rcases (by omega : s = 0 ∨ s = 1 ∨ s = 2 ∨ s = 3) with rfl | rfl | rfl | rfl
    · exact ⟨_, rfl⟩
    · exact ⟨_, rfl⟩
    · exact ⟨_, rfl⟩
    · exact ⟨_, rfl⟩
  exact ⟨i, w5, by simp [F_law_integer, b_law_integer, e1, e2, e3, e4, e5, s0, hi, mk, s4], trivial, k5⟩
theorem pick_ok (w : Well) (k : Nat) (hw : WOk k w) (hk : k + 10 < 2 ^ 40) (most : Nat) (a1 a3 a4 a5 a6 : Option DV) :
    ∃ (p : Int) (w' : Well), fIfE (fOrT (fTst (fBin eqD (fVar 2) (fC (.int 0)))) (fTst (fBin eqD (fCall (F_law_take c) [true, false] (fCons (fVar 0) (fCons (fC (.int 9)) fNil))) (fC (.int 0))))) (fCall (F_law_take c) [true, false] (fCons (fVar 0) (fCons (fC (.int 5)) fNil))) (fBin addD (fC (.int 5)) (fCall (F_law_take c) [true, false] (fCons (fVar 0) (fCons (fC (.int 12)) fNil)))) [some (.bw w.d), a1, some (.fz (.int most)), a3, a4, a5, a6] = .ok (.val (.int p)) [some (.bw w'.d), a1, some (.fz (.int most)), a3, a4, a5, a6] ∧ 0 ≤ p ∧ p < 17 ∧ (most = 0 → p < 5) ∧ WOk (k + 2) w' := by
  by_cases q : most = 0
  · obtain ⟨t, w1, e1, h0, h1, k1⟩ := take_ok c w k 5 hw (by omega) (by decide) (by decide)
    exact ⟨t, w1, by simp [q, e1], h0, by omega, fun _ => h1, k1.mono (by omega)⟩
  · have q' : ¬ (most : Int) = 0 := by omega
    obtain ⟨u, w1, e1, u0, u1, k1⟩ := take_ok c w k 9 hw (by omega) (by decide) (by decide)
    by_cases z : u = 0
    · obtain ⟨t, w2, e2, h0, h1, k2⟩ := take_ok c w1 (k + 1) 5 k1 (by omega) (by decide) (by decide)
      exact ⟨t, w2, by simp [q, e1, z, e2], h0, by omega, fun _ => h1, k2⟩
    · obtain ⟨t, w2, e2, h0, h1, k2⟩ := take_ok c w1 (k + 1) 12 k1 (by omega) (by decide) (by decide)
      exact ⟨5 + t, w2, by simp [q, e1, z, e2], by omega, by omega, fun h => absurd h q, k2⟩
theorem call_r {F : FF} {wd wd' d cd : D} {m : D} {M : FE} {r : DEnv} (hM : M (some (.bw wd) :: some (.fz cd) :: r) = .ok (.val m) (some (.bw wd) :: some (.fz cd) :: r)) (e : F [.bw wd, .fz cd, .fz m] = .rt d [wd']) : fCall F [true, false, false] (fCons (fVar 0) (fCons (fVar 1) (fCons M fNil))) (some (.bw wd) :: some (.fz cd) :: r) = .ok (.val d) (some (.bw wd') :: some (.fz cd) :: r) := by
  simp [hM, e]
theorem call_rv {F : FF} {wd wd' d cd m : D} {i : Nat} {r : DEnv} (hi : r[i]? = some (some (.fz m))) (e : F [.bw wd, .fz cd, .fz m] = .rt d [wd']) : fCall F [true, false, false] (fCons (fVar 0) (fCons (fVar 1) (fCons (fVar (i + 2)) fNil))) (some (.bw wd) :: some (.fz cd) :: r) = .ok (.val d) (some (.bw wd') :: some (.fz cd) :: r) := by
  simp [hi, e]
def snOf : Nat → Sn
  | 0 => .add | 1 => .sub | 2 => .mul | 3 => .and | 4 => .or | 5 => .eq | 6 => .lt | 7 => .add | _ => .mul
theorem sn_at {p : Int} (h0 : 8 ≤ p) (h1 : p < 17) : [D.str "+", D.str "-", D.str "*", D.str "&", D.str "|", D.str "=", D.str "<", D.str "+", D.str "*"][(p - 8).toNat]? = some (.str (Str.ofString (snOf (p - 8).toNat).s)) ∧ snOf (p - 8).toNat ≠ .div ∧ snOf (p - 8).toNat ≠ .mod := by
  rcases (by omega : p = 8 ∨ p = 9 ∨ p = 10 ∨ p = 11 ∨ p = 12 ∨ p = 13 ∨ p = 14 ∨ p = 15 ∨ p = 16) with rfl | rfl | rfl | rfl | rfl | rfl | rfl | rfl | rfl <;> exact ⟨rfl, by simp [snOf], by simp [snOf]⟩
theorem few_ok (w : Well) (k : Nat) (hw : WOk k w) (hk : k + 10 < 2 ^ 40) (most : Nat) (hm : 1 ≤ most) (hm2 : most ≤ 100) (a1 a3 a4 a5 a6 : Option DV) :
    ∃ (f : Nat) (w' : Well), fBin itemD (fOO (fLst (fCons (fC (.int 0)) (fCons (fBin subD (fVar 2) (fC (.int 1))) (fCons (fCall (F_law_take c) [true, false] (fCons (fVar 0) (fCons (fVar 2) fNil))) fNil))))) (fCall (F_law_take c) [true, false] (fCons (fVar 0) (fCons (fC (.int 3)) fNil))) [some (.bw w.d), a1, some (.fz (.int most)), a3, a4, a5, a6] = .ok (.val (.int f)) [some (.bw w'.d), a1, some (.fz (.int most)), a3, a4, a5, a6] ∧ f < most ∧ WOk (k + 2) w' := by
  obtain ⟨t, w1, e1, h0, h1, k1⟩ := take_ok c w k most hw (by omega) (by omega) (Nat.lt_of_le_of_lt (Nat.log2_le_self _) (by omega))
  obtain ⟨t, rfl⟩ := Int.eq_ofNat_of_zero_le h0
  obtain ⟨u, w2, e2, u0, u1, k2⟩ := take_ok c w1 (k + 1) 3 k1 (by omega) (by decide) (by decide)
  obtain ⟨f, hf, hl⟩ : ∃ f : Nat, [D.int 0, D.int ((most : Int) - 1), D.int (t : Int)][u.toNat]? = some (.int (f : Int)) ∧ f < most := by
    rcases (by omega : u = 0 ∨ u = 1 ∨ u = 2) with rfl | rfl | rfl
    · exact ⟨0, rfl, by omega⟩
    · exact ⟨most - 1, by rw [show ((most - 1 : Nat) : Int) = (most : Int) - 1 by omega]; rfl, by omega⟩
    · exact ⟨t, rfl, by omega⟩
  exact ⟨f, w2, by simp [e1, e2, u0, hf], hl, k2⟩
theorem recipe_ok (xs : List Str) (hx : xs ≠ []) (hl : xs.length ≤ 100) (hnm : ∀ x ∈ xs, isName x = true) : ∀ (n most : Nat) (w : Well) (k : Nat), most < n → most ≤ 100 → WOk k w → k + 20 * (2 * most + 1) < 2 ^ 39 →
    ∃ (r : Rc) (w' : Well), F_law_recipe c n [.bw w.d, .fz (.lst (xs.map D.str)), .fz (.int most)] = .rt r.d [w'.d] ∧ r.good xs ∧ r.sg ≤ most ∧ WOk (k + 20 * (2 * most + 1)) w' := by
  intro n
  induction n with
  | zero => intro most w k h; omega
  | succ n ih =>
    intro most w k hn hm hw hk
    have hne : (xs.map D.str).length ≠ 0 := by simpa using hx
    have h1x : 1 ≤ xs.length := by have := List.length_pos_iff.mpr hx; omega
    have s9 : xs.length ≤ sizeLine := Nat.le_trans (by omega) s1000
    obtain ⟨p, w1, e1, p0, p1, pm, k1⟩ := pick_ok c w k hw (by omega) most (some (.fz (.lst (xs.map D.str)))) none none none none
    have run : F_law_recipe c (n + 1) [.bw w.d, .fz (.lst (xs.map D.str)), .fz (.int most)] = Z.fin [.bw w.d, .fz (.lst (xs.map D.str)), .fz (.int most)] (b_law_recipe c (F_law_recipe c n) [some (.bw w.d), some (.fz (.lst (xs.map D.str))), some (.fz (.int most)), none, none, none, none]) := by
      show runF 3 4 (b_law_recipe c (F_law_recipe c n)) _ = _
      rw [runF_s, if_pos (by simp)]
      rfl
    rw [run]
    unfold b_law_recipe
    rw [seq_e, fset_v e1, seq_nx]
    simp only [List.set_cons_succ, List.set_cons_zero]
    generalize hcs : (D.lst (xs.map D.str)) = cs at *
    have sk : ∀ ρ : DEnv, fSkip ρ = .nx ρ := fun _ => rfl
    rw [seq_e]
    by_cases q0 : p = 0
    · rw [fif_t (ρ' := [some (.bw w1.d), some (.fz cs), some (.fz (.int most)), some (.fz (.int p)), none, none, none]) (by simp [q0]), fret_v (d := .tup [.str "g"]) (ρ' := [some (.bw w1.d), some (.fz cs), some (.fz (.int most)), some (.fz (.int p)), none, none, none]) (by simp), seq_rt]
      exact ⟨.g, w1, by simp [Rc.d], trivial, by simp [Rc.sg], k1.mono (by omega)⟩
    · rw [fif_f (ρ' := [some (.bw w1.d), some (.fz cs), some (.fz (.int most)), some (.fz (.int p)), none, none, none]) (by simp [q0]), sk, seq_nx, seq_e]
      have nn : eqD cs (.lst []) = some (.bl false) := by
        subst hcs
        exact lst_ne xs hx hnm
      by_cases q1 : p = 1
      · rw [fif_t (ρ' := [some (.bw w1.d), some (.fz cs), some (.fz (.int most)), some (.fz (.int p)), none, none, none]) (by simp [q1])]
        obtain ⟨i, w2, e2, hi, k2⟩ := integer_ok c w1 (k + 2) k1 (by omega)
        rw [fret_v (d := .tup [.str "n", .int i]) (ρ' := [some (.bw w2.d), some (.fz cs), some (.fz (.int most)), some (.fz (.int p)), none, none, none]) (by simp [e2]), seq_rt]
        exact ⟨.n i, w2, by simp [Rc.d], hi, by simp [Rc.sg], k2.mono (by omega)⟩
      · rw [fif_f (ρ' := [some (.bw w1.d), some (.fz cs), some (.fz (.int most)), some (.fz (.int p)), none, none, none]) (by by_cases z : p < 5 <;> simp [q1, z, nn]), sk, seq_nx, seq_e]
        by_cases q2 : p < 5
        · rw [fif_t (ρ' := [some (.bw w1.d), some (.fz cs), some (.fz (.int most)), some (.fz (.int p)), none, none, none]) (by simp [q2])]
          obtain ⟨j, w2, e2, j0, j1, k2⟩ := take_ok c w1 (k + 2) xs.length k1 (by omega) (by omega) (Nat.lt_of_le_of_lt (Nat.log2_le_self _) (by omega))
          have hj : j.toNat < xs.length := by omega
          have gx : (xs.map D.str)[j.toNat]? = some (.str xs[j.toNat]) := by rw [List.getElem?_map, List.getElem?_eq_getElem hj]; rfl
          have mx := List.getElem_mem hj
          generalize xs[j.toNat] = x at gx mx
          obtain ⟨s, es, hs⟩ : ∃ s : String, [D.str "w", D.str "c", D.str "c"][(p - 2).toNat]? = some (.str (Str.ofString s)) ∧ (s = "w" ∨ s = "c") := by
            rcases (by omega : p = 2 ∨ p = 3 ∨ p = 4) with rfl | rfl | rfl
            · exact ⟨"w", rfl, .inl rfl⟩
            · exact ⟨"c", rfl, .inr rfl⟩
            · exact ⟨"c", rfl, .inr rfl⟩
          have p2 : 2 ≤ p := by omega
          subst hcs
          rw [fret_v (d := .tup [.str (Str.ofString s), .str x]) (ρ' := [some (.bw w2.d), some (.fz (.lst (xs.map D.str))), some (.fz (.int most)), some (.fz (.int p)), none, none, none]) (by simp [es, p2, e2, j0, gx]), seq_rt]
          rcases hs with rfl | rfl
          · exact ⟨.w x, w2, by simp [Rc.d], mx, by simp [Rc.sg], k2.mono (by omega)⟩
          · exact ⟨.c x, w2, by simp [Rc.d], mx, by simp [Rc.sg], k2.mono (by omega)⟩
        · have m1 : 1 ≤ most := by
            rcases Nat.eq_zero_or_pos most with z | z
            · exact absurd (pm z) q2
            · exact z
          rw [fif_f (ρ' := [some (.bw w1.d), some (.fz cs), some (.fz (.int most)), some (.fz (.int p)), none, none, none]) (by simp [q2]), sk, seq_nx, seq_e]
          have hM : ∀ (wd : D) (a3 a4 a5 a6 : Option DV), (fBin subD (fVar 2) (fC (.int 1))) [some (.bw wd), some (.fz cs), some (.fz (.int most)), a3, a4, a5, a6] = .ok (.val (.int ((most - 1 : Nat) : Int))) [some (.bw wd), some (.fz cs), some (.fz (.int most)), a3, a4, a5, a6] := fun wd a3 a4 a5 a6 => by
            rw [show ((most - 1 : Nat) : Int) = (most : Int) - 1 by omega]; simp
          by_cases q3 : p = 5
          · rw [fif_t (ρ' := [some (.bw w1.d), some (.fz cs), some (.fz (.int most)), some (.fz (.int p)), none, none, none]) (by simp [q3])]
            obtain ⟨r, w2, e2, hr, hs, k2⟩ := ih (most - 1) w1 (k + 2) (by omega) (by omega) k1 (by omega)
            have C1 := call_r (r := [some (.fz (.int most)), some (.fz (.int p)), none, none, none]) (hM w1.d (some (.fz (.int p))) none none none) e2
            rw [fret_v (d := .tup [.str "~", r.d]) (ρ' := [some (.bw w2.d), some (.fz cs), some (.fz (.int most)), some (.fz (.int p)), none, none, none]) (by
              generalize (fCall (F_law_recipe c n) [true, false, false] (fCons (fVar 0) (fCons (fVar 1) (fCons (fBin subD (fVar 2) (fC (.int 1))) fNil)))) = G at C1
              simp [C1]), seq_rt]
            exact ⟨.inv r, w2, by simp [Rc.d], hr, by simp only [Rc.sg]; omega, k2.mono (by omega)⟩
          · rw [fif_f (ρ' := [some (.bw w1.d), some (.fz cs), some (.fz (.int most)), some (.fz (.int p)), none, none, none]) (by simp [q3]), sk, seq_nx, seq_e]
            by_cases q4 : p < 8
            · rw [fif_t (ρ' := [some (.bw w1.d), some (.fz cs), some (.fz (.int most)), some (.fz (.int p)), none, none, none]) (by simp [q4])]
              obtain ⟨r, w2, e2, hr, hs, k2⟩ := ih (most - 1) w1 (k + 2) (by omega) (by omega) k1 (by omega)
              have C1 := call_r (r := [some (.fz (.int most)), some (.fz (.int p)), none, none, none]) (hM w1.d (some (.fz (.int p))) none none none) e2
              obtain ⟨u, w3, e3, u0, u1, k3⟩ := take_ok c w2 (k + 2 + 20 * (2 * (most - 1) + 1)) 3 k2 (by omega) (by decide) (by decide)
              obtain ⟨b, hb, hb1, hb2⟩ : ∃ b : Int, [D.int 7, D.int 1000, D.int 99999999999999999999][u.toNat]? = some (.int b) ∧ 1 ≤ b ∧ b.natAbs.log2 < 9000 := by
                rcases (by omega : u = 0 ∨ u = 1 ∨ u = 2) with rfl | rfl | rfl
                · exact ⟨7, rfl, by omega, by decide⟩
                · exact ⟨1000, rfl, by omega, by decide⟩
                · exact ⟨99999999999999999999, rfl, by omega, by decide⟩
              obtain ⟨t, w4, e4, t0, t1, k4⟩ := take_ok c w3 (k + 2 + 20 * (2 * (most - 1) + 1) + 1) b k3 (by omega) (by omega) hb2
              obtain ⟨md, es⟩ : ∃ md : Bool, [D.str "//", D.str "mod"][(p - 6).toNat]? = some (.str (if md = true then "mod" else "//")) := by
                rcases (by omega : p = 6 ∨ p = 7) with rfl | rfl
                · exact ⟨false, rfl⟩
                · exact ⟨true, rfl⟩
              have p6 : 6 ≤ p := by omega
              rw [seq_e, fset_v C1, seq_nx]
              simp only [List.set_cons_succ, List.set_cons_zero]
              rw [fret_v (d := .tup [.str (if md = true then "mod" else "//"), r.d, .int (1 + t)]) (ρ' := [some (.bw w4.d), some (.fz cs), some (.fz (.int most)), some (.fz (.int p)), some (.fz r.d), none, none]) (by simp [es, p6, e3, u0, hb, e4]), seq_rt]
              exact ⟨.dv md r (1 + t), w4, by simp [Rc.d], ⟨hr, by omega, by first | trivial | omega⟩, by simp only [Rc.sg]; omega, k4.mono (by omega)⟩
            · rw [fif_f (ρ' := [some (.bw w1.d), some (.fz cs), some (.fz (.int most)), some (.fz (.int p)), none, none, none]) (by simp [q4]), sk, seq_nx]
              obtain ⟨es, sd, sm⟩ := sn_at (p := p) (by omega) p1
              generalize snOf (p - 8).toNat = sn at es sd sm
              have p8 : 8 ≤ p := by omega
              rw [seq_e, fset_v (d := .str (Str.ofString sn.s)) (ρ' := [some (.bw w1.d), some (.fz cs), some (.fz (.int most)), some (.fz (.int p)), none, none, none]) (by simp [es, p8]), seq_nx]
              simp only [List.set_cons_succ, List.set_cons_zero]
              obtain ⟨f, w2, e2, hf, k2⟩ := few_ok c w1 (k + 2) k1 (by omega) most m1 hm (some (.fz cs)) (some (.fz (.int p))) none (some (.fz (.str (Str.ofString sn.s)))) none
              rw [seq_e, fset_v e2, seq_nx]
              simp only [List.set_cons_succ, List.set_cons_zero]
              obtain ⟨r, w3, e3, hr, hs, k3⟩ := ih f w2 (k + 2 + 2) (by omega) (by omega) k2 (by omega)
              have C1 := call_rv (i := 4) (r := [some (.fz (.int most)), some (.fz (.int p)), none, some (.fz (.str (Str.ofString sn.s))), some (.fz (.int f))]) rfl e3
              rw [seq_e, fset_v C1, seq_nx]
              simp only [List.set_cons_succ, List.set_cons_zero]
              obtain ⟨q, w4, e4, hq, ht, k4⟩ := ih (most - 1 - f) w3 (k + 2 + 2 + 20 * (2 * f + 1)) (by omega) (by omega) k3 (by omega)
              have C2 := call_r (M := fBin subD (fBin subD (fVar 2) (fC (.int 1))) (fVar 6)) (r := [some (.fz (.int most)), some (.fz (.int p)), some (.fz r.d), some (.fz (.str (Str.ofString sn.s))), some (.fz (.int f))]) (by
                rw [show ((most - 1 - f : Nat) : Int) = (most : Int) - 1 - f by omega]; simp) e4
              rw [fret_v (d := .tup [.str (Str.ofString sn.s), r.d, q.d]) (ρ' := [some (.bw w4.d), some (.fz cs), some (.fz (.int most)), some (.fz (.int p)), some (.fz r.d), some (.fz (.str (Str.ofString sn.s))), some (.fz (.int f))]) (by
                generalize (fCall (F_law_recipe c n) [true, false, false] (fCons (fVar 0) (fCons (fVar 1) (fCons (fBin subD (fBin subD (fVar 2) (fC (.int 1))) (fVar 6)) fNil)))) = G at C2
                simp [C2])]
              exact ⟨.op sn r q, w4, by simp [Rc.d], ⟨hr, hq, sd, sm⟩, by simp only [Rc.sg]; omega, k4.mono (by omega)⟩
end
end Lk
namespace Lk
open PySem L2 DL
def Rc.isN : Rc → Bool
  | .n _ => true
  | _ => false
/-- a part as it is handed to a sign -/
def Rc.opn (st : Int) : Rc → Op
  | .n i => if st = 1 then .i i else .v (.num i)
  | r => .v r.v
theorem opn_vl (st : Int) (r : Rc) : (r.opn st).vl = r.v := by
  cases r <;> simp only [Rc.opn] <;> (try split) <;> rfl
theorem it0 (q : Rc) : ∃ s : Str, itemD q.d (.int 0) = some (.str s) ∧ (s = "n" ↔ q.isN = true) := by
  cases q with
  | dv md r k => cases md <;> exact ⟨_, rfl, by simp [Rc.isN]⟩
  | op s r q => cases s <;> exact ⟨_, rfl, by simp [Rc.isN, Sn.s]⟩
  | _ => exact ⟨_, rfl, by simp [Rc.isN]⟩
section
variable (c : Cl)
theorem check_div (k : Int) (h : 1 ≤ k) : F_check_divisor c [.fz (.int k)] = .rt .non [] := by
  have : ¬ k < 1 := by omega
  simp [F_check_divisor, b_check_divisor, this]
theorem check_div_bad (k : Int) (h : ¬ 1 ≤ k) : F_check_divisor c [.fz (.int k)] = .ex c.InvalidDivisor (.int k) [] := by
  have : k < 1 := by omega
  simp [F_check_divisor, b_check_divisor, this]
theorem floordiv_ok (v : Vl) (k : Int) (h : 1 ≤ k) : F_Value_UfloordivU c [.fz (v.d c), .fz (.int k)] = .ro ((Vl.bin .div v (.num k)).d c) [] := by
  simp [F_Value_UfloordivU, b_Value_UfloordivU, check_div c k h, init_eq, Vl.d, Sn.s]
theorem floordiv_bad (v : Vl) (k : Int) (h : ¬ 1 ≤ k) : F_Value_UfloordivU c [.fz (v.d c), .fz (.int k)] = .ex c.InvalidDivisor (.int k) [] := by
  simp [F_Value_UfloordivU, b_Value_UfloordivU, check_div_bad c k h]
theorem rest_ok (v : Vl) (k : Int) (h : 1 ≤ k) : F_Value_rest c [.fz (v.d c), .fz (.int k)] = .ro ((Vl.bin .mod v (.num k)).d c) [] := by
  simp [F_Value_rest, b_Value_rest, check_div c k h, init_eq, Vl.d, Sn.s]
theorem rest_bad (v : Vl) (k : Int) (h : ¬ 1 ≤ k) : F_Value_rest c [.fz (v.d c), .fz (.int k)] = .ex c.InvalidDivisor (.int k) [] := by
  simp [F_Value_rest, b_Value_rest, check_div_bad c k h]
theorem joined_v (s : Sn) (h1 : s ≠ .div) (h2 : s ≠ .mod) (v w : Vl) : F_law_joined c [.fz (.str (Str.ofString s.s)), .fz (v.d c), .fz (w.d c)] = .rt ((Vl.bin s v w).d c) [] := by
  have i1 := insOf_d c v "same" (by decide) (by decide) (by decide)
  have i2 := insOf_d c v "less" (by decide) (by decide) (by decide)
  cases s <;> first | exact absurd rfl h1 | exact absurd rfl h2 | simp [F_law_joined, b_law_joined, inF, inB, Sn.s, i1, i2]
theorem joined_i (s : Sn) (h1 : s ≠ .div) (h2 : s ≠ .mod) (v : Vl) (i : Int) : F_law_joined c [.fz (.str (Str.ofString s.s)), .fz (v.d c), .fz (.int i)] = .rt ((Vl.bin s v (.num i)).d c) [] := by
  have i1 := insOf_d c v "same" (by decide) (by decide) (by decide)
  have i2 := insOf_d c v "less" (by decide) (by decide) (by decide)
  cases s <;> first | exact absurd rfl h1 | exact absurd rfl h2 | simp [F_law_joined, b_law_joined, inF, inB, Sn.s, i1, i2]
theorem joined_r (s : Sn) (h1 : s ≠ .div) (h2 : s ≠ .mod) (h3 : s ≠ .eq) (h4 : s ≠ .lt) (v : Vl) (i : Int) : F_law_joined c [.fz (.str (Str.ofString s.s)), .fz (.int i), .fz (v.d c)] = .rt ((Vl.bin s (.num i) v).d c) [] := by
  cases s <;> first | exact absurd rfl h1 | exact absurd rfl h2 | exact absurd rfl h3 | exact absurd rfl h4 | simp [F_law_joined, b_law_joined, inF, inB, Sn.s]
theorem joined_op (s : Sn) (h1 : s ≠ .div) (h2 : s ≠ .mod) (v : Vl) (o : Op) : F_law_joined c [.fz (.str (Str.ofString s.s)), .fz (v.d c), .fz (o.d c)] = .rt ((Vl.bin s v o.vl).d c) [] := by
  cases o with
  | v w => exact joined_v c s h1 h2 v w
  | i i => exact joined_i c s h1 h2 v i
theorem joined_po (s : Sn) (h1 : s ≠ .div) (h2 : s ≠ .mod) (h3 : s ≠ .eq) (h4 : s ≠ .lt) (v : Vl) (o : Op) : F_law_joined c [.fz (.str (Str.ofString s.s)), .fz (o.d c), .fz (v.d c)] = .rt ((Vl.bin s o.vl v).d c) [] := by
  cases o with
  | v w => exact joined_v c s h1 h2 w v
  | i i => exact joined_r c s h1 h2 h3 h4 v i
theorem built_ok (xs : List Str) (hn : ∀ x ∈ xs, isName x = true) (st : Int) : ∀ (n : Nat) (r : Rc), r.good xs → (2 * r.sg + 1 ≤ n → F_law_built c n [.fz r.d, .fz (.int st)] = .rt (r.v.d c) []) ∧ (2 * r.sg + 2 ≤ n → F_law_side c n [.fz r.d, .fz (.int st)] = .rt ((r.opn st).d c) []) := by
  have nl : ∀ x ∈ xs, x.length ≤ sizeLine := fun x hx => by
    have h := hn x hx
    simp only [isName, Bool.and_eq_true] at h
    have := of_decide_eq_true h.2.1
    exact Nat.le_trans (by omega) s1000
  intro n
  induction n with
  | zero => intro r _; exact ⟨fun h => by omega, fun h => by omega⟩
  | succ n ih =>
    intro r hr
    constructor
    · intro hm
      show runF 2 1 (b_law_built c (F_law_side c n) (F_law_built c n)) _ = _
      cases r with
      | g => simp [b_law_built, Rc.d, Rc.v, inF, inB]
      | n i => simp [b_law_built, Rc.d, Rc.v, inF, inB]
      | c x =>
        have e := named_eq c x (nl x hr) (hn x hr)
        simp [b_law_built, Rc.d, Rc.v, inF, inB, e]
      | w x =>
        have e := now_eq c x (nl x hr) (hn x hr)
        simp [b_law_built, Rc.d, Rc.v, inF, inB, e]
      | inv r =>
        simp only [Rc.sg] at hm
        have e := (ih r hr).1 (by omega)
        simp [b_law_built, Rc.d, Rc.v, inF, inB, e]
      | dv md r k =>
        simp only [Rc.sg] at hm
        have e := (ih r hr.1).1 (by omega)
        have e1 := floordiv_ok c r.v k hr.2.1
        have e2 := rest_ok c r.v k hr.2.1
        have i1 := insOf_d c r.v "rest" (by decide) (by decide) (by decide)
        cases md <;> simp [b_law_built, Rc.d, Rc.v, inF, inB, e, e1, e2, i1]
      | op s r q =>
        obtain ⟨hr, hq, h1, h2⟩ := hr
        simp only [Rc.sg] at hm
        have e1 := (ih r hr).1 (by omega)
        have e2 := (ih r hr).2 (by omega)
        have e3 := (ih q hq).1 (by omega)
        have e4 := (ih q hq).2 (by omega)
        obtain ⟨t, et, ht⟩ := it0 q
        have j1 := joined_op c s h1 h2 r.v (q.opn st)
        rw [opn_vl] at j1
        by_cases z : s = .eq ∨ s = .lt
        · rcases z with rfl | rfl <;> simp only [Sn.s] at j1 <;> simp [b_law_built, Rc.d, Rc.v, inF, inB, Sn.s, e1, e4, et, j1]
        · have j2 := joined_po c s h1 h2 (fun y => z (.inl y)) (fun y => z (.inr y)) q.v (r.opn st)
          rw [opn_vl] at j2
          by_cases u : q.isN = true
          · have ht' := ht.mpr u
            cases s <;> first | exact absurd rfl h1 | exact absurd rfl h2 | exact absurd (.inl rfl) z | exact absurd (.inr rfl) z | (simp only [Sn.s] at j1; simp [b_law_built, Rc.d, Rc.v, inF, inB, Sn.s, e1, e4, et, ht', j1])
          · have ht' : ¬ t = "n" := fun y => u (ht.mp y)
            cases s <;> first | exact absurd rfl h1 | exact absurd rfl h2 | exact absurd (.inl rfl) z | exact absurd (.inr rfl) z | (simp only [Sn.s] at j2; simp [b_law_built, Rc.d, Rc.v, inF, inB, Sn.s, e2, e3, et, ht', j2])
    · intro hm
      have e := (ih r hr).1 (by omega)
      obtain ⟨t, et, ht⟩ := it0 r
      show runF 2 0 (b_law_side c (F_law_side c n) (F_law_built c n)) _ = _
      by_cases u : r.isN = true
      · have ht' := ht.mpr u
        cases r with
        | n i =>
          by_cases z : st = 1
          · simp [b_law_side, Rc.d, Rc.opn, z]
          · simp only [Rc.d] at e
            simp [b_law_side, Rc.d, Rc.opn, z, e, Rc.v]
        | _ => cases u
      · have ht' : ¬ t = "n" := fun y => u (ht.mp y)
        have eo : r.opn st = .v r.v := by cases r <;> first | rfl | exact absurd rfl u
        simp [b_law_side, et, ht', e, eo]
end
end Lk
namespace Lk
open PySem L2 DL
/-- two values are built alike -/
def Vl.eqb : Vl → Vl → Bool
  | .named x, .named y => decide (x = y)
  | .now x, .now y => decide (x = y)
  | .passed, .passed => true
  | .num i, .num j => decide (i = j)
  | .inv v, .inv w => v.eqb w
  | .bin s v w, .bin s' v' w' => decide (s.s = s'.s) && (v.eqb v' && w.eqb w')
  | _, _ => false
theorem sn_inj {s t : Sn} (h : s.s = t.s) : s = t := by
  cases s <;> cases t <;> first | rfl | (simp [Sn.s] at h)
theorem eqb_refl : ∀ v : Vl, v.eqb v = true
  | .named _ => by simp [Vl.eqb]
  | .now _ => by simp [Vl.eqb]
  | .passed => rfl
  | .num _ => by simp [Vl.eqb]
  | .inv v => eqb_refl v
  | .bin s v w => by simp [Vl.eqb, eqb_refl v, eqb_refl w]
theorem eqb_eq : ∀ {v w : Vl}, v.eqb w = true → v = w
  | .named _, .named _, h => by rw [of_decide_eq_true h]
  | .now _, .now _, h => by rw [of_decide_eq_true h]
  | .passed, .passed, _ => rfl
  | .num _, .num _, h => by rw [of_decide_eq_true h]
  | .inv v, .inv w, h => by rw [eqb_eq (v := v) (w := w) h]
  | .bin s v w, .bin s' v' w', h => by
    simp only [Vl.eqb, Bool.and_eq_true] at h
    rw [sn_inj (of_decide_eq_true h.1), eqb_eq h.2.1, eqb_eq h.2.2]
theorem sn_str {s t : Sn} (h : Str.ofString s.s = Str.ofString t.s) : s.s = t.s := by
  cases s <;> cases t <;> first | rfl | (exfalso; revert h; simp [Sn.s]; done)
def Vl.sgn : Vl → Str
  | .named _ => "named"
  | .now _ => "now"
  | .passed => "passed"
  | .num _ => "number"
  | .inv _ => "~"
  | .bin s _ _ => Str.ofString s.s
section
variable (c : Cl)
def Vl.f1 : Vl → D
  | .named x => .str x
  | .now x => .str x
  | .passed => .non
  | .num i => .int i
  | .inv v => v.d c
  | .bin _ v _ => v.d c
def Vl.f2 : Vl → D
  | .bin _ _ w => w.d c
  | _ => .non
theorem d_eq (v : Vl) : v.d c = mkV c v.sgn (v.f1 c) (v.f2 c) := by cases v <;> rfl
theorem same_of : ∀ (a b : Vl), a.eqb b = false → same (a.d c) (b.d c) = false := by
  intro a
  induction a with
  | named x => intro b h; cases b with
    | bin s v w => cases s <;> simp [Vl.d, mkV, same, sameF, Sn.s]
    | named y => simp [Vl.eqb] at h; simp [Vl.d, mkV, same, sameF, h]
    | _ => simp [Vl.d, mkV, same, sameF]
  | now x => intro b h; cases b with
    | bin s v w => cases s <;> simp [Vl.d, mkV, same, sameF, Sn.s]
    | now y => simp [Vl.eqb] at h; simp [Vl.d, mkV, same, sameF, h]
    | _ => simp [Vl.d, mkV, same, sameF]
  | passed => intro b h; cases b with
    | bin s v w => cases s <;> simp [Vl.d, mkV, same, sameF, Sn.s]
    | passed => simp [Vl.eqb] at h
    | _ => simp [Vl.d, mkV, same, sameF]
  | num x => intro b h; cases b with
    | bin s v w => cases s <;> simp [Vl.d, mkV, same, sameF, Sn.s]
    | num y => simp [Vl.eqb] at h; simp [Vl.d, mkV, same, sameF, h]
    | _ => simp [Vl.d, mkV, same, sameF]
  | inv v ih => intro b h; cases b with
    | bin s v w => cases s <;> simp [Vl.d, mkV, same, sameF, Sn.s]
    | inv w => simp [Vl.d, mkV, same, sameF, ih w h]
    | _ => simp [Vl.d, mkV, same, sameF]
  | bin s v w ih1 ih2 => intro b h; cases b with
    | bin t x y =>
      simp only [Vl.eqb, Bool.and_eq_false_iff] at h
      rcases h with h | h | h
      · have : ¬ s.s = t.s := of_decide_eq_false h
        have : ¬ Str.ofString s.s = Str.ofString t.s := fun z => this (sn_str z)
        simp [Vl.d, mkV, same, sameF, this]
      · simp [Vl.d, mkV, same, sameF, ih1 x h]
      · simp [Vl.d, mkV, same, sameF, ih2 y h]
    | _ => cases s <;> simp [Vl.d, mkV, same, sameF, Sn.s]
theorem eqX_non (fe : EqF) : eqX fe .non .non = some (.bl true) := by simp [eqX, eqA, eqPl, py, PyData.eqv]
theorem eqX_int (fe : EqF) (i j : Int) : eqX fe (.int i) (.int j) = some (.bl (decide (i = j))) := by
  by_cases h : i = j
  · subst h; simp [eqX, eqA, eqPl, py, PyData.eqv]
  · simp [eqX, eqA, eqPl, py, PyData.eqv, h]
theorem ue_no (n : Nat) (a b : Vl) (h : a.sgn ≠ b.sgn) : F_Value_UeqU c (n + 1) [.fz (a.d c), .fz (b.d c)] = .rt (.bl false) [] := by
  have e : ∀ fe, neX fe (.str a.sgn) (.str b.sgn) = some (.bl true) := fun fe => by
    show some (D.bl (!decide (a.sgn = b.sgn))) = _
    rw [decide_eq_false h]; rfl
  rw [d_eq c a, d_eq c b]
  show runF 2 0 (b_Value_UeqU c (F_Value_UeqU c n)) _ = _
  simp [b_Value_UeqU, mkV, List.lookup, e]
theorem ue_yes (n : Nat) (a b : Vl) (h : a.sgn = b.sgn) (r1 r2 : Bool) (e1 : eqX (eqFc c.Value (F_Value_UeqU c n) noEq) (a.f1 c) (b.f1 c) = some (.bl r1)) (e2 : r1 = true → eqX (eqFc c.Value (F_Value_UeqU c n) noEq) (a.f2 c) (b.f2 c) = some (.bl r2)) : F_Value_UeqU c (n + 1) [.fz (a.d c), .fz (b.d c)] = .rt (.bl (r1 && r2)) [] := by
  have e : ∀ fe, neX fe (.str a.sgn) (.str b.sgn) = some (.bl false) := fun fe => by
    show some (D.bl (!decide (a.sgn = b.sgn))) = _
    rw [decide_eq_true h]; rfl
  rw [d_eq c a, d_eq c b]
  show runF 2 0 (b_Value_UeqU c (F_Value_UeqU c n)) _ = _
  cases r1 with
  | false => simp [b_Value_UeqU, mkV, List.lookup, e, e1]
  | true => simp [b_Value_UeqU, mkV, List.lookup, e, e1, e2 rfl]
theorem eqX_of (n : Nat) (v w : Vl) (r : Bool) (h : F_Value_UeqU c n [.fz (v.d c), .fz (w.d c)] = .rt (.bl r) []) (hs : r = true ∨ same (v.d c) (w.d c) = false) :
    eqX (eqFc c.Value (F_Value_UeqU c n) noEq) (v.d c) (w.d c) = some (.bl r) ∧ neX (eqFc c.Value (F_Value_UeqU c n) noEq) (v.d c) (w.d c) = some (.bl (!r)) := by
  obtain ⟨s, x, y, e1⟩ := d_ins c v
  obtain ⟨s', x', y', e2⟩ := d_ins c w
  rw [e1, e2] at h hs ⊢
  have hf : ∀ F, eqFc c.Value F noEq c.Value = some F := fun F => if_pos rfl
  have hp : ∀ fs b, eqPl (.ins c.Value fs) b = none := fun fs b => by simp [eqPl, DL.plain]
  simp only [mkV] at h hs ⊢
  constructor <;> simp [eqX, neX, eqA, hp, hf, ownEq, h, FR.eqv, hs]
theorem ue : ∀ (n : Nat) (a b : Vl), a.dp ≤ n → F_Value_UeqU c n [.fz (a.d c), .fz (b.d c)] = .rt (.bl (a.eqb b)) [] := by
  intro n
  induction n with
  | zero => intro a b h; cases a <;> simp [Vl.dp] at h
  | succ n ih =>
    have eqv : ∀ a b : Vl, a.dp ≤ n → eqX (eqFc c.Value (F_Value_UeqU c n) noEq) (a.d c) (b.d c) = some (.bl (a.eqb b)) := fun a b h => (eqX_of c n a b (a.eqb b) (ih a b h) (by cases q : a.eqb b with
      | true => exact .inl rfl
      | false => exact .inr (same_of c a b q))).1
    intro a b hd
    by_cases hs : a.sgn = b.sgn
    · cases a with
      | named x => cases b with
        | named y =>
          have := ue_yes c n (.named x) (.named y) rfl (decide (x = y)) true rfl (fun _ => eqX_non _)
          rw [this]; simp [Vl.eqb]
        | bin s v w => cases s <;> (exfalso; revert hs; simp [Vl.sgn, Sn.s])
        | _ => exfalso; revert hs; simp [Vl.sgn]
      | now x => cases b with
        | now y =>
          have := ue_yes c n (.now x) (.now y) rfl (decide (x = y)) true rfl (fun _ => eqX_non _)
          rw [this]; simp [Vl.eqb]
        | bin s v w => cases s <;> (exfalso; revert hs; simp [Vl.sgn, Sn.s])
        | _ => exfalso; revert hs; simp [Vl.sgn]
      | passed => cases b with
        | passed =>
          have := ue_yes c n .passed .passed rfl true true (eqX_non _) (fun _ => eqX_non _)
          rw [this]; simp [Vl.eqb]
        | bin s v w => cases s <;> (exfalso; revert hs; simp [Vl.sgn, Sn.s])
        | _ => exfalso; revert hs; simp [Vl.sgn]
      | num x => cases b with
        | num y =>
          have := ue_yes c n (.num x) (.num y) rfl (decide (x = y)) true (eqX_int _ x y) (fun _ => eqX_non _)
          rw [this]; simp [Vl.eqb]
        | bin s v w => cases s <;> (exfalso; revert hs; simp [Vl.sgn, Sn.s])
        | _ => exfalso; revert hs; simp [Vl.sgn]
      | inv v => cases b with
        | inv w =>
          simp only [Vl.dp] at hd
          have := ue_yes c n (.inv v) (.inv w) rfl (v.eqb w) true (eqv v w (by omega)) (fun _ => eqX_non _)
          rw [this]; simp [Vl.eqb]
        | bin s v w => cases s <;> (exfalso; revert hs; simp [Vl.sgn, Sn.s])
        | _ => exfalso; revert hs; simp [Vl.sgn]
      | bin s v w => cases b with
        | bin t x y =>
          simp only [Vl.dp] at hd
          have st : s.s = t.s := sn_str hs
          have := ue_yes c n (.bin s v w) (.bin t x y) hs (v.eqb x) (w.eqb y) (eqv v x (by omega)) (fun _ => eqv w y (by omega))
          rw [this]; simp [Vl.eqb, st]
        | _ => cases s <;> (exfalso; revert hs; simp [Vl.sgn, Sn.s])
    · rw [ue_no c n a b hs]
      have : a.eqb b = false := by
        cases q : a.eqb b with
        | false => rfl
        | true => exact absurd (by rw [eqb_eq q]) hs
      rw [this]
theorem eqX_v (n : Nat) (a b : Vl) (h : a.dp ≤ n) : eqX (eqFc c.Value (F_Value_UeqU c n) noEq) (a.d c) (b.d c) = some (.bl (a.eqb b)) ∧ neX (eqFc c.Value (F_Value_UeqU c n) noEq) (a.d c) (b.d c) = some (.bl (!(a.eqb b))) := eqX_of c n a b _ (ue c n a b h) (by cases q : a.eqb b with
  | true => exact .inl rfl
  | false => exact .inr (same_of c a b q))
end
end Lk
namespace Lk
open PySem L2 DL
theorem rc_tup (q : Rc) : ∃ ds, q.d = .tup ds := by cases q <;> exact ⟨_, rfl⟩
section
variable (c : Cl)
@[simp] theorem isTy_rc (no : List Addr) (q : Rc) : isTy "tuple" no q.d = some true := by
  obtain ⟨ds, e⟩ := rc_tup q
  rw [e]; rfl
@[simp] theorem isTy_str (no : List Addr) (x : Str) : isTy "tuple" no (.str x) = some false := rfl
@[simp] theorem isTy_int (no : List Addr) (x : Int) : isTy "tuple" no (.int x) = some false := rfl
theorem signs_ok : ∀ (n : Nat) (r : Rc), r.sg < n → F_law_signs c n [.fz r.d] = .rt (.int r.sg) [] := by
  have z0 : 0 < sizeLine := Nat.lt_of_lt_of_le (by decide) s1000
  have z1 : 1 < sizeLine := Nat.lt_of_lt_of_le (by decide) s1000
  intro n
  induction n with
  | zero => intro r h; omega
  | succ n ih =>
    intro r h
    show runF 1 2 (b_law_signs c (F_law_signs c n)) _ = _
    cases r with
    | g => simp [b_law_signs, Rc.d, Rc.sg, notInF, inB, wipeD, backD, keepFz, sumF, D.intsOf]
    | n i => simp [b_law_signs, Rc.d, Rc.sg, notInF, inB, wipeD, backD, keepFz, sumF, D.intsOf]
    | c x => simp [b_law_signs, Rc.d, Rc.sg, notInF, inB, wipeD, backD, keepFz, sumF, D.intsOf]
    | w x => simp [b_law_signs, Rc.d, Rc.sg, notInF, inB, wipeD, backD, keepFz, sumF, D.intsOf]
    | inv r =>
      simp only [Rc.sg] at h
      have e := ih r (by omega)
      simp [b_law_signs, Rc.d, Rc.sg, notInF, inB, wipeD, backD, keepFz, sumF, D.intsOf, e, z0]
      omega
    | dv md r k =>
      simp only [Rc.sg] at h
      have e := ih r (by omega)
      cases md <;> simp [b_law_signs, Rc.d, Rc.sg, notInF, inB, wipeD, backD, keepFz, sumF, D.intsOf, e, z0] <;> omega
    | op s r q =>
      simp only [Rc.sg] at h
      have e := ih r (by omega)
      have e' := ih q (by omega)
      cases s <;> simp [b_law_signs, Rc.d, Rc.sg, Sn.s, notInF, inB, wipeD, backD, keepFz, sumF, D.intsOf, e, e', z0, z1] <;> omega
theorem leaf_ok (xs : List Str) (hx : xs ≠ []) (hl : xs.length ≤ 100) (w : Well) (k : Nat) (hw : WOk k w) (hk : k + 10 < 2 ^ 40) (r : Rc) (hr : r.good xs) (h0 : r.sg = 0) :
    ∃ (q : Rc) (w' : Well), F_law_leaf c [.bw w.d, .fz r.d, .fz (.lst (xs.map D.str))] = .rt q.d [w'.d] ∧ q.good xs ∧ q.sg = 0 ∧ WOk (k + 3) w' := by
  have s9 : xs.length ≤ sizeLine := Nat.le_trans (by omega) s1000
  have s5 : (5 : Nat) ≤ sizeLine := Nat.le_trans (by decide) s1000
  have hx1 : 1 ≤ xs.length := by have := List.length_pos_iff.mpr hx; omega
  have l10 : Nat.log2 10 < 9000 := by decide
  obtain ⟨x0, g0, m0⟩ : ∃ x0 : Str, (xs.map D.str)[0]? = some (.str x0) ∧ x0 ∈ xs := by
    cases xs with
    | nil => exact absurd rfl hx
    | cons y ys => exact ⟨y, rfl, List.mem_cons_self⟩
  have named : ∀ x : Str, x ∈ xs → ∀ isC : Bool, ∃ (q : Rc) (w' : Well), F_law_leaf c [.bw w.d, .fz (.tup [.str (if isC = true then "c" else "w"), .str x]), .fz (.lst (xs.map D.str))] = .rt q.d [w'.d] ∧ q.good xs ∧ q.sg = 0 ∧ WOk (k + 3) w' := fun x hxm isC => by
    obtain ⟨j, w2, e2, j0, j1, k2⟩ := take_ok c w k xs.length hw (by omega) (by omega) (Nat.lt_of_le_of_lt (Nat.log2_le_self _) (by omega))
    have hj : j.toNat < xs.length := by omega
    have gx : (xs.map D.str)[j.toNat]? = some (.str xs[j.toNat]) := by rw [List.getElem?_map, List.getElem?_eq_getElem hj]; rfl
    have mx := List.getElem_mem hj
    generalize xs[j.toNat] = y at gx mx
    obtain ⟨t, w3, e3, t0, t1, k3⟩ := take_ok c w2 (k + 1) 5 k2 (by omega) (by decide) (by decide)
    have run : F_law_leaf c [.bw w.d, .fz (.tup [.str (if isC = true then "c" else "w"), .str x]), .fz (.lst (xs.map D.str))] = Z.fin [.bw w.d, .fz (.tup [.str (if isC = true then "c" else "w"), .str x]), .fz (.lst (xs.map D.str))] (b_law_leaf c [some (.bw w.d), some (.fz (.tup [.str (if isC = true then "c" else "w"), .str x])), some (.fz (.lst (xs.map D.str))), none, none]) := by
      unfold F_law_leaf
      rw [runF_s, if_pos (by simp)]
      rfl
    rw [run]
    have S : ∃ q : Rc, b_law_leaf c [some (.bw w.d), some (.fz (.tup [.str (if isC = true then "c" else "w"), .str x])), some (.fz (.lst (xs.map D.str))), none, none] = .rt q.d [some (.bw w3.d), some (.fz (.tup [.str (if isC = true then "c" else "w"), .str x])), some (.fz (.lst (xs.map D.str))), some (.fz (.lst [.tup [.str (if isC = true then "c" else "w"), .str y], .tup [.str "c", .str x], .tup [.str "w", .str x]])), some (.fz (.str y))] ∧ q.good xs ∧ q.sg = 0 := by
      obtain ⟨q, hq, hg, hs⟩ : ∃ q : Rc, [D.tup [.str (if isC = true then "c" else "w"), .str y], .tup [.str "c", .str x], .tup [.str "w", .str x], .tup [.str "g"], .tup [.str "n", .int 1]][t.toNat]? = some q.d ∧ q.good xs ∧ q.sg = 0 := by
        rcases (by omega : t = 0 ∨ t = 1 ∨ t = 2 ∨ t = 3 ∨ t = 4) with rfl | rfl | rfl | rfl | rfl
        · cases isC
          · exact ⟨.w y, rfl, mx, rfl⟩
          · exact ⟨.c y, rfl, mx, rfl⟩
        · exact ⟨.c x, rfl, hxm, rfl⟩
        · exact ⟨.w x, rfl, hxm, rfl⟩
        · exact ⟨.g, rfl, trivial, rfl⟩
        · exact ⟨.n 1, rfl, by simp [Rc.good], rfl⟩
      refine ⟨q, ?_, hg, hs⟩
      unfold b_law_leaf
      cases isC <;> simp [e2, e3, j0, t0, gx, s9, s5] <;> simp at hq <;> simp [hq]
    obtain ⟨q, e, hg, hs⟩ := S
    rw [e]
    exact ⟨q, w3, by simp, hg, hs, k3.mono (by omega)⟩
  cases r with
  | g =>
    obtain ⟨t, w2, e2, t0, t1, k2⟩ := take_ok c w k 3 hw (by omega) (by decide) (by decide)
    obtain ⟨q, hq, hg, hs⟩ : ∃ q : Rc, [D.tup [.str "n", .int 0], .tup [.str "c", .str x0], .tup [.str "w", .str x0]][t.toNat]? = some q.d ∧ q.good xs ∧ q.sg = 0 := by
      rcases (by omega : t = 0 ∨ t = 1 ∨ t = 2) with rfl | rfl | rfl
      · exact ⟨.n 0, rfl, by simp [Rc.good], rfl⟩
      · exact ⟨.c x0, rfl, m0, rfl⟩
      · exact ⟨.w x0, rfl, m0, rfl⟩
    exact ⟨q, w2, by simp [F_law_leaf, b_law_leaf, Rc.d, e2, t0, g0, hq], hg, hs, k2.mono (by omega)⟩
  | n i =>
    obtain ⟨t, w2, e2, t0, t1, k2⟩ := take_ok c w k 3 hw (by omega) (by decide) (by decide)
    obtain ⟨u, w3, e3, u0, u1, k3⟩ := take_ok c w2 (k + 1) 4 k2 (by omega) (by decide) (by decide)
    obtain ⟨j, hj⟩ : ∃ j : Int, [D.int (if i < 99999999999999999999 then i + 1 else 0), D.int (-i), D.int (i / 10)][t.toNat]? = some (.int j) := by
      rcases (by omega : t = 0 ∨ t = 1 ∨ t = 2) with rfl | rfl | rfl <;> exact ⟨_, rfl⟩
    by_cases z : i < 99999999999999999999
    · simp only [if_pos z] at hj
      by_cases y : u = 0
      · exact ⟨.g, w3, by simp [F_law_leaf, b_law_leaf, Rc.d, e2, e3, t0, z, hj, y, l10], trivial, rfl, k3.mono (by omega)⟩
      · exact ⟨.n j, w3, by simp [F_law_leaf, b_law_leaf, Rc.d, e2, e3, t0, z, hj, y, l10], by simp [Rc.good], rfl, k3.mono (by omega)⟩
    · simp only [if_neg z] at hj
      by_cases y : u = 0
      · exact ⟨.g, w3, by simp [F_law_leaf, b_law_leaf, Rc.d, e2, e3, t0, z, hj, y, l10], trivial, rfl, k3.mono (by omega)⟩
      · exact ⟨.n j, w3, by simp [F_law_leaf, b_law_leaf, Rc.d, e2, e3, t0, z, hj, y, l10], by simp [Rc.good], rfl, k3.mono (by omega)⟩
  | c x => exact named x hr true
  | w x => exact named x hr false
  | inv r => simp [Rc.sg] at h0
  | dv md r k => simp [Rc.sg] at h0
  | op s r q => simp [Rc.sg] at h0
end
end Lk
namespace Lk
open PySem L2 DL
section
variable (c : Cl)
/-- what a call of the def below gives -/
def ChOk (xs : List Str) (G : FF) (r : Rc) : Prop := ∀ (w : Well) (k : Nat), WOk k w → k + 6 * (r.sg + 1) < 2 ^ 39 → ∃ (q : Rc) (w' : Well), G [.bw w.d, .fz r.d, .fz (.lst (xs.map D.str))] = .rt q.d [w'.d] ∧ q.good xs ∧ q.sg ≤ r.sg + 1 ∧ WOk (k + 6 * (r.sg + 1)) w'
theorem ch_inv (xs : List Str) (G : FF) (r : Rc) (hr : r.good xs) (hs : r.sg + 1 < 16) (ih : ChOk xs G r) : ChOk xs (runF 3 8 (b_law_changed c G)) (.inv r) := by
  intro w k hw hk
  simp only [Rc.sg] at hk ⊢
  have z0 : 0 < sizeLine := Nat.lt_of_lt_of_le (by decide) s1000
  have z2 : 2 ≤ sizeLine := Nat.le_trans (by decide) s1000
  have z3 : 1 ≤ sizeLine := Nat.le_trans (by decide) s1000
  have sg := signs_ok c 16 (.inv r) hs
  simp only [Rc.d, Rc.sg] at sg
  have ne : ¬ ((r.sg + 1 : Nat) : Int) = 0 := by omega
  have ne2 : ¬ ((r.sg : Int) + 1 = 0) := by omega
  have c1 : ∀ a b : D, cutD [a, b] none (some 1) = [a] := fun _ _ => rfl
  have c2 : ∀ a b : D, cutD [a, b] (some 2) none = [] := fun _ _ => rfl
  obtain ⟨u, w1, e1, u0, u1, k1⟩ := take_ok c w k 4 hw (by omega) (by decide) (by decide)
  by_cases hu : 0 < u
  · obtain ⟨t, w2, e2, t0, t1, k2⟩ := take_ok c w1 (k + 1) 1 k1 (by omega) (by decide) (by decide)
    obtain rfl : t = 0 := by omega
    obtain ⟨q, w3, e3, hq, hq2, k3⟩ := ih w2 (k + 2) k2 (by omega)
    exact ⟨.inv q, w3, by simp [b_law_changed, Rc.d, sg, ne, ne2, wipeD, backD, keepFz, z0, z2, z3, e1, hu, e2, e3, c1, c2], hq, by simp only [Rc.sg]; omega, k3.mono (by omega)⟩
  · obtain ⟨t, w2, e2, t0, t1, k2⟩ := take_ok c w1 (k + 1) 2 k1 (by omega) (by decide) (by decide)
    rcases (by omega : t = 0 ∨ t = 1) with rfl | rfl
    · exact ⟨r, w2, by simp [b_law_changed, Rc.d, sg, ne, ne2, wipeD, backD, keepFz, z0, z2, z3, e1, hu, e2], hr, by omega, k2.mono (by omega)⟩
    · exact ⟨.inv (.inv r), w2, by simp [b_law_changed, Rc.d, sg, ne, ne2, wipeD, backD, keepFz, z0, z2, z3, e1, hu, e2], hr, by simp only [Rc.sg]; omega, k2.mono (by omega)⟩
theorem ch_dv (xs : List Str) (G : FF) (md : Bool) (r : Rc) (b : Int) (hr : r.good xs) (hb : 1 ≤ b) (hs : r.sg + 1 < 16) (ih : ChOk xs G r) : ChOk xs (runF 3 8 (b_law_changed c G)) (.dv md r b) := by
  intro w k hw hk
  simp only [Rc.sg] at hk ⊢
  have z0 : 0 < sizeLine := Nat.lt_of_lt_of_le (by decide) s1000
  have z2 : 2 ≤ sizeLine := Nat.le_trans (by decide) s1000
  have z2' : 2 < sizeLine := Nat.lt_of_lt_of_le (by decide) s1000
  have z3 : 3 ≤ sizeLine := Nat.le_trans (by decide) s1000
  have sg := signs_ok c 16 (.dv md r b) hs
  simp only [Rc.d, Rc.sg] at sg
  have ne : ¬ ((r.sg + 1 : Nat) : Int) = 0 := by omega
  have ne2 : ¬ ((r.sg : Int) + 1 = 0) := by omega
  have c1 : ∀ a b e : D, cutD [a, b, e] none (some 1) = [a] := fun _ _ _ => rfl
  have c2 : ∀ a b e : D, cutD [a, b, e] (some 2) none = [e] := fun _ _ _ => rfl
  obtain ⟨u, w1, e1, u0, u1, k1⟩ := take_ok c w k 4 hw (by omega) (by decide) (by decide)
  by_cases hu : 0 < u
  · obtain ⟨t, w2, e2, t0, t1, k2⟩ := take_ok c w1 (k + 1) 1 k1 (by omega) (by decide) (by decide)
    obtain rfl : t = 0 := by omega
    obtain ⟨q, w3, e3, hq, hq2, k3⟩ := ih w2 (k + 2) k2 (by omega)
    refine ⟨.dv md q b, w3, ?_, ⟨hq, hb, trivial⟩, by simp only [Rc.sg]; omega, k3.mono (by omega)⟩
    cases md <;> simp at sg <;> simp [b_law_changed, Rc.d, sg, ne, ne2, wipeD, backD, keepFz, z0, z2, z3, e1, hu, e2, e3, c1, c2]
  · obtain ⟨t, w2, e2, t0, t1, k2⟩ := take_ok c w1 (k + 1) 3 k1 (by omega) (by decide) (by decide)
    rcases (by omega : t = 0 ∨ t = 1 ∨ t = 2) with rfl | rfl | rfl
    · refine ⟨.dv (!md) r b, w2, ?_, ⟨hr, hb, trivial⟩, by simp only [Rc.sg]; omega, k2.mono (by omega)⟩
      by_cases y : b < 99999999999999999999 <;> cases md <;> simp at sg <;> simp [b_law_changed, Rc.d, sg, ne, ne2, wipeD, backD, keepFz, z0, z2, z2', z3, e1, hu, e2, inF, inB, y]
    · refine ⟨r, w2, ?_, hr, by omega, k2.mono (by omega)⟩
      by_cases y : b < 99999999999999999999 <;> cases md <;> simp at sg <;> simp [b_law_changed, Rc.d, sg, ne, ne2, wipeD, backD, keepFz, z0, z2, z2', z3, e1, hu, e2, inF, inB, y]
    · refine ⟨.dv md r (if b < 99999999999999999999 then b + 1 else 1), w2, ?_, ⟨hr, by split <;> omega, trivial⟩, by simp only [Rc.sg]; omega, k2.mono (by omega)⟩
      by_cases y : b < 99999999999999999999 <;> cases md <;> simp at sg <;> simp [b_law_changed, Rc.d, sg, ne, ne2, wipeD, backD, keepFz, z0, z2, z2', z3, e1, hu, e2, inF, inB, y]
def sn7 : Nat → Sn
  | 0 => .add | 1 => .sub | 2 => .mul | 3 => .and | 4 => .or | 5 => .eq | _ => .lt
theorem sn7_at {p : Int} (h0 : 0 ≤ p) (h1 : p < 7) : ∃ s : Sn, [D.str "+", D.str "-", D.str "*", D.str "&", D.str "|", D.str "=", D.str "<"][p.toNat]? = some (.str (Str.ofString s.s)) ∧ s ≠ .div ∧ s ≠ .mod := by
  rcases (by omega : p = 0 ∨ p = 1 ∨ p = 2 ∨ p = 3 ∨ p = 4 ∨ p = 5 ∨ p = 6) with rfl | rfl | rfl | rfl | rfl | rfl | rfl
  · exact ⟨.add, rfl, by simp, by simp⟩
  · exact ⟨.sub, rfl, by simp, by simp⟩
  · exact ⟨.mul, rfl, by simp, by simp⟩
  · exact ⟨.and, rfl, by simp, by simp⟩
  · exact ⟨.or, rfl, by simp, by simp⟩
  · exact ⟨.eq, rfl, by simp, by simp⟩
  · exact ⟨.lt, rfl, by simp, by simp⟩
theorem sn_ne {s : Sn} (h1 : s ≠ .div) (h2 : s ≠ .mod) : ¬ Str.ofString s.s = "~" ∧ ¬ Str.ofString s.s = "//" ∧ ¬ Str.ofString s.s = "mod" := by
  cases s <;> first | exact absurd rfl h1 | exact absurd rfl h2 | simp [Sn.s]
theorem ch_op (xs : List Str) (G : FF) (s : Sn) (r p : Rc) (h1 : s ≠ .div) (h2 : s ≠ .mod) (hr : r.good xs) (hp : p.good xs) (hs : r.sg + p.sg + 1 < 16) (ih : ChOk xs G r) (ih2 : ChOk xs G p) : ChOk xs (runF 3 8 (b_law_changed c G)) (.op s r p) := by
  intro w k hw hk
  simp only [Rc.sg] at hk ⊢
  have z0 : 0 < sizeLine := Nat.lt_of_lt_of_le (by decide) s1000
  have z1 : 1 < sizeLine := Nat.lt_of_lt_of_le (by decide) s1000
  have z2 : 2 ≤ sizeLine := Nat.le_trans (by decide) s1000
  have z3 : 3 ≤ sizeLine := Nat.le_trans (by decide) s1000
  have z5 : 5 ≤ sizeLine := Nat.le_trans (by decide) s1000
  obtain ⟨n1, n2, n3⟩ := sn_ne h1 h2
  have sg := signs_ok c 16 (.op s r p) hs
  simp only [Rc.d, Rc.sg] at sg
  have ne : ¬ ((r.sg + p.sg + 1 : Nat) : Int) = 0 := by omega
  have ne2 : ¬ ((r.sg : Int) + (p.sg : Int) + 1 = 0) := by omega
  have c1 : ∀ a b e : D, cutD [a, b, e] none (some 1) = [a] := fun _ _ _ => rfl
  have c2 : ∀ a b e : D, cutD [a, b, e] (some 2) none = [e] := fun _ _ _ => rfl
  have c3 : ∀ a b e : D, cutD [a, b, e] none (some 2) = [a, b] := fun _ _ _ => rfl
  have c4 : ∀ a b e : D, cutD [a, b, e] (some 3) none = [] := fun _ _ _ => rfl
  obtain ⟨u, w1, e1, u0, u1, k1⟩ := take_ok c w k 4 hw (by omega) (by decide) (by decide)
  by_cases hu : 0 < u
  · obtain ⟨t, w2, e2, t0, t1, k2⟩ := take_ok c w1 (k + 1) 2 k1 (by omega) (by decide) (by decide)
    rcases (by omega : t = 0 ∨ t = 1) with rfl | rfl
    · obtain ⟨q, w3, e3, hq, hq2, k3⟩ := ih w2 (k + 2) k2 (by omega)
      exact ⟨.op s q p, w3, by simp [b_law_changed, Rc.d, sg, ne, ne2, wipeD, backD, keepFz, z0, z1, z2, z3, e1, hu, e2, e3, c1, c2, c3, c4], ⟨hq, hp, h1, h2⟩, by simp only [Rc.sg]; omega, k3.mono (by omega)⟩
    · obtain ⟨q, w3, e3, hq, hq2, k3⟩ := ih2 w2 (k + 2) k2 (by omega)
      exact ⟨.op s r q, w3, by simp [b_law_changed, Rc.d, sg, ne, ne2, wipeD, backD, keepFz, z0, z1, z2, z3, e1, hu, e2, e3, c1, c2, c3, c4], ⟨hr, hq, h1, h2⟩, by simp only [Rc.sg]; omega, k3.mono (by omega)⟩
  · obtain ⟨v, w2, e2, v0, v1, k2⟩ := take_ok c w1 (k + 1) 7 k1 (by omega) (by decide) (by decide)
    obtain ⟨sn, es, d1, d2⟩ := sn7_at v0 v1
    obtain ⟨t, w3, e3, t0, t1, k3⟩ := take_ok c w2 (k + 2) 5 k2 (by omega) (by decide) (by decide)
    obtain ⟨q, hq, hg, hsg⟩ : ∃ q : Rc, [D.tup [.str (Str.ofString s.s), p.d, r.d], .tup [.str (Str.ofString sn.s), r.d, p.d], r.d, p.d, .tup [.str "~", .tup [.str (Str.ofString s.s), r.d, p.d]]][t.toNat]? = some q.d ∧ q.good xs ∧ q.sg ≤ r.sg + p.sg + 2 := by
      rcases (by omega : t = 0 ∨ t = 1 ∨ t = 2 ∨ t = 3 ∨ t = 4) with rfl | rfl | rfl | rfl | rfl
      · exact ⟨.op s p r, rfl, ⟨hp, hr, h1, h2⟩, by simp only [Rc.sg]; omega⟩
      · exact ⟨.op sn r p, rfl, ⟨hr, hp, d1, d2⟩, by simp only [Rc.sg]; omega⟩
      · exact ⟨r, rfl, hr, by omega⟩
      · exact ⟨p, rfl, hp, by omega⟩
      · exact ⟨.inv (.op s r p), rfl, ⟨hr, hp, h1, h2⟩, by simp only [Rc.sg]; omega⟩
    exact ⟨q, w3, by simp [b_law_changed, Rc.d, sg, ne, ne2, wipeD, backD, keepFz, z0, z1, z2, z3, z5, e1, hu, e2, v0, es, e3, t0, hq, inF, inB, n1, n2, n3], hg, by omega, k3.mono (by omega)⟩
theorem changed_ok (xs : List Str) (hx : xs ≠ []) (hl : xs.length ≤ 100) : ∀ (n : Nat) (r : Rc), r.good xs → r.sg < n → r.sg < 15 → ChOk xs (F_law_changed c n) r := by
  intro n
  induction n with
  | zero => intro r _ h; omega
  | succ n ih =>
    intro r hr hn h15
    have leaf : r.sg = 0 → ChOk xs (F_law_changed c (n + 1)) r := fun h0 w k hw hk => by
      obtain ⟨q, w', e, hg, hs, k'⟩ := leaf_ok c xs hx hl w k hw (by omega) r hr h0
      have sg := signs_ok c 16 r (by omega)
      rw [h0] at sg
      refine ⟨q, w', ?_, hg, by omega, k'.mono (by omega)⟩
      show runF 3 8 (b_law_changed c (F_law_changed c n)) _ = _
      rw [runF_s, if_pos (by simp)]
      show Z.fin _ ((fSeq _ _) [some (.bw w.d), some (.fz r.d), some (.fz (.lst (xs.map D.str))), none, none, none, none, none, none, none, none]) = _
      rw [seq_e, fif_t (ρ' := [some (.bw w.d), some (.fz r.d), some (.fz (.lst (xs.map D.str))), none, none, none, none, none, none, none, none]) (by simp [sg]), fret_v (d := q.d) (ρ' := [some (.bw w'.d), some (.fz r.d), some (.fz (.lst (xs.map D.str))), none, none, none, none, none, none, none, none]) (by simp [e]), seq_rt]
      simp
    cases r with
    | g => exact leaf rfl
    | n i => exact leaf rfl
    | c x => exact leaf rfl
    | w x => exact leaf rfl
    | inv r =>
      simp only [Rc.sg] at hn h15
      exact ch_inv c xs _ r hr (by omega) (ih r hr (by omega) (by omega))
    | dv md r b =>
      simp only [Rc.sg] at hn h15
      exact ch_dv c xs _ md r b hr.1 hr.2.1 (by omega) (ih r hr.1 (by omega) (by omega))
    | op s r p =>
      simp only [Rc.sg] at hn h15
      exact ch_op c xs _ s r p hr.2.2.1 hr.2.2.2 hr.1 hr.2.1 (by omega) (ih r hr.1 (by omega) (by omega)) (ih p hr.2.1 (by omega) (by omega))
end
end Lk
namespace Lk
open PySem L2 DL
theorem sn_beq (s t : Sn) : (Str.ofString s.s == Str.ofString t.s) = decide (s.s = t.s) := by
  cases s <;> cases t <;> simp [Sn.s]
theorem sn_lit (s : Sn) (h1 : s ≠ .div) (h2 : s ≠ .mod) : ∀ l ∈ (["g", "n", "c", "w", "~", "//", "mod"] : List String), (Str.ofString s.s == Str.ofString l) = false ∧ (Str.ofString l == Str.ofString s.s) = false := by
  cases s <;> first | exact absurd rfl h1 | exact absurd rfl h2 | simp [Sn.s]
theorem sn_lit2 (s : Sn) (h1 : s ≠ .div) (h2 : s ≠ .mod) (md : Bool) : ¬ s.s = Sn.s (if md = true then .mod else .div) ∧ ¬ Sn.s (if md = true then .mod else .div) = s.s := by
  cases md <;> cases s <;> first | exact absurd rfl h1 | exact absurd rfl h2 | simp [Sn.s]
def Rc.hd : Rc → Str
  | .g => "g"
  | .n _ => "n"
  | .c _ => "c"
  | .w _ => "w"
  | .inv _ => "~"
  | .dv md _ _ => (if md = true then "mod" else "//" : String)
  | .op s _ _ => Str.ofString s.s
def Rc.tl : Rc → List PyData
  | .g => []
  | .n i => [.int i]
  | .c x => [.str x]
  | .w x => [.str x]
  | .inv r => [py r.d]
  | .dv _ r k => [py r.d, .int k]
  | .op _ r q => [py r.d, py q.d]
theorem rc_py (r : Rc) : py r.d = .tuple (.str r.hd :: r.tl) := by
  cases r <;> first | rfl | (rename_i md _ _; cases md <;> rfl)
theorem rc_no {r q : Rc} (h : (r.hd == q.hd) = false) (e : r.v.eqb q.v = false) : PyData.eqv (py r.d) (py q.d) = r.v.eqb q.v := by
  rw [rc_py, rc_py, e]
  show ((r.hd == q.hd) && _) = false
  rw [h, Bool.false_and]
theorem rc_yes {r q : Rc} (h : (r.hd == q.hd) = true) (e : PyData.eqvAll r.tl q.tl = r.v.eqb q.v) : PyData.eqv (py r.d) (py q.d) = r.v.eqb q.v := by
  rw [rc_py r, rc_py q]
  show ((r.hd == q.hd) && PyData.eqvAll r.tl q.tl) = _
  rw [h, Bool.true_and, e]
theorem rc_eqv (xs : List Str) : ∀ (r q : Rc), r.good xs → q.good xs → PyData.eqv (py r.d) (py q.d) = r.v.eqb q.v := by
  intro r
  induction r with
  | g => intro q _ hq; cases q with
    | g => exact rc_yes (by simp [Rc.hd]) rfl
    | dv md q k => exact rc_no (by cases md <;> simp [Rc.hd]) rfl
    | op s q p => exact rc_no (sn_lit s hq.2.2.1 hq.2.2.2 "g" (by simp)).2 rfl
    | _ => exact rc_no (by simp [Rc.hd]) rfl
  | n i => intro q _ hq; cases q with
    | n j => exact rc_yes (by simp [Rc.hd]) (by show ((i == j) && true) = decide (i = j); by_cases h : i = j <;> simp [h])
    | dv md q k => exact rc_no (by cases md <;> simp [Rc.hd]) rfl
    | op s q p => exact rc_no (sn_lit s hq.2.2.1 hq.2.2.2 "n" (by simp)).2 rfl
    | _ => exact rc_no (by simp [Rc.hd]) rfl
  | c x => intro q _ hq; cases q with
    | c y => exact rc_yes (by simp [Rc.hd]) (by show ((x == y) && true) = decide (x = y); by_cases h : x = y <;> simp [h])
    | dv md q k => exact rc_no (by cases md <;> simp [Rc.hd]) rfl
    | op s q p => exact rc_no (sn_lit s hq.2.2.1 hq.2.2.2 "c" (by simp)).2 rfl
    | _ => exact rc_no (by simp [Rc.hd]) rfl
  | w x => intro q _ hq; cases q with
    | w y => exact rc_yes (by simp [Rc.hd]) (by show ((x == y) && true) = decide (x = y); by_cases h : x = y <;> simp [h])
    | dv md q k => exact rc_no (by cases md <;> simp [Rc.hd]) rfl
    | op s q p => exact rc_no (sn_lit s hq.2.2.1 hq.2.2.2 "w" (by simp)).2 rfl
    | _ => exact rc_no (by simp [Rc.hd]) rfl
  | inv r ih => intro q hr hq; cases q with
    | inv q => exact rc_yes (by simp [Rc.hd]) (by show (PyData.eqv (py r.d) (py q.d) && true) = r.v.eqb q.v; rw [ih q hr hq, Bool.and_true])
    | dv md q k => exact rc_no (by cases md <;> simp [Rc.hd]) rfl
    | op s q p => exact rc_no (sn_lit s hq.2.2.1 hq.2.2.2 "~" (by simp)).2 rfl
    | _ => exact rc_no (by simp [Rc.hd]) rfl
  | dv md r k ih => intro q hr hq; cases q with
    | dv md' q k' =>
      by_cases hm : md = md'
      · subst hm
        refine rc_yes (by simp [Rc.hd]) ?_
        show (PyData.eqv (py r.d) (py q.d) && ((k == k') && true)) = (decide _ && (r.v.eqb q.v && decide (k = k')))
        rw [ih q hr.1 hq.1, Bool.and_true, decide_eq_true rfl, Bool.true_and]
        by_cases h : k = k' <;> simp [h]
      · refine rc_no (by cases md <;> cases md' <;> first | exact absurd rfl hm | simp [Rc.hd]) ?_
        cases md <;> cases md' <;> first | exact absurd rfl hm | simp [Rc.v, Vl.eqb, Sn.s]
    | op s q p =>
      have a1 := sn_lit s hq.2.2.1 hq.2.2.2 "//" (by simp)
      have a2 := sn_lit s hq.2.2.1 hq.2.2.2 "mod" (by simp)
      have a3 := sn_lit2 s hq.2.2.1 hq.2.2.2 md
      refine rc_no (by cases md <;> first | exact a1.2 | exact a2.2) ?_
      show (decide _ && _) = false
      rw [decide_eq_false a3.2, Bool.false_and]
    | _ => exact rc_no (by cases md <;> simp [Rc.hd]) rfl
  | op s r p ih1 ih2 => intro q hr hq; cases q with
    | dv md q k =>
      have a1 := sn_lit s hr.2.2.1 hr.2.2.2 "//" (by simp)
      have a2 := sn_lit s hr.2.2.1 hr.2.2.2 "mod" (by simp)
      have a3 := sn_lit2 s hr.2.2.1 hr.2.2.2 md
      refine rc_no (by cases md <;> first | exact a1.1 | exact a2.1) ?_
      show (decide _ && _) = false
      rw [decide_eq_false a3.1, Bool.false_and]
    | op t q u =>
      have e1 := ih1 q hr.1 hq.1
      have e2 := ih2 u hr.2.1 hq.2.1
      have e3 := sn_beq s t
      rw [rc_py, rc_py]
      show ((Str.ofString s.s == Str.ofString t.s) && (PyData.eqv (py r.d) (py q.d) && (PyData.eqv (py p.d) (py u.d) && true))) = (decide (s.s = t.s) && (r.v.eqb q.v && p.v.eqb u.v))
      rw [e1, e2, e3, Bool.and_true]
    | g => exact rc_no (sn_lit s hr.2.2.1 hr.2.2.2 "g" (by simp)).1 rfl
    | n i => exact rc_no (sn_lit s hr.2.2.1 hr.2.2.2 "n" (by simp)).1 rfl
    | c i => exact rc_no (sn_lit s hr.2.2.1 hr.2.2.2 "c" (by simp)).1 rfl
    | w i => exact rc_no (sn_lit s hr.2.2.1 hr.2.2.2 "w" (by simp)).1 rfl
    | inv i => exact rc_no (sn_lit s hr.2.2.1 hr.2.2.2 "~" (by simp)).1 rfl
theorem so_lit : ∀ l ∈ (["g", "n", "c", "w", "~", "//", "mod"] : List String), PyData.strOk (Str.ofString l) = true := by decide +kernel
theorem so_sn (s : Sn) : PyData.strOk (Str.ofString s.s) = true := by cases s <;> decide +kernel
theorem plain_rc (xs : List Str) (hn : ∀ x ∈ xs, isName x = true) : ∀ (r : Rc) (n : Nat), r.good xs → r.sg < n → plain n r.d = true := by
  intro r
  induction r with
  | g => intro n _ h; cases n with
    | zero => omega
    | succ n => have := so_lit "g" (by simp); simp [Rc.d, DL.plain, DL.plains, this]
  | n i => intro n _ h; cases n with
    | zero => omega
    | succ n => have := so_lit "n" (by simp); simp [Rc.d, DL.plain, DL.plains, this]
  | c x => intro n hr h; cases n with
    | zero => omega
    | succ n => have := so_lit "c" (by simp); have := strOk_name (hn x hr); simp [Rc.d, DL.plain, DL.plains, *]
  | w x => intro n hr h; cases n with
    | zero => omega
    | succ n => have := so_lit "w" (by simp); have := strOk_name (hn x hr); simp [Rc.d, DL.plain, DL.plains, *]
  | inv r ih => intro n hr h; simp only [Rc.sg] at h; cases n with
    | zero => omega
    | succ n => have := so_lit "~" (by simp); have := ih n hr (by omega); simp [Rc.d, DL.plain, DL.plains, *]
  | dv md r k ih => intro n hr h; simp only [Rc.sg] at h; cases n with
    | zero => omega
    | succ n => have := so_lit "//" (by simp); have := so_lit "mod" (by simp); have := ih n hr.1 (by omega); cases md <;> simp [Rc.d, DL.plain, DL.plains, *]
  | op s r q ih1 ih2 => intro n hr h; simp only [Rc.sg] at h; cases n with
    | zero => omega
    | succ n => have := so_sn s; have := ih1 n hr.1 (by omega); have := ih2 n hr.2.1 (by omega); simp [Rc.d, DL.plain, DL.plains, *]
def alikeT : Str := shw (.lst [.bl true, .bl true, .bl false, .bl false])
def unlikeT : Str := shw (.lst [.bl false, .bl false, .bl true, .bl true])
theorem repr_alike : reprF [.lst [.bl true, .bl true, .bl false, .bl false]] = some (.str alikeT) := by simp [reprF, DL.plain, DL.plains, okR, okRs, wR, wRs, alikeT]
theorem repr_unlike : reprF [.lst [.bl false, .bl false, .bl true, .bl true]] = some (.str unlikeT) := by simp [reprF, DL.plain, DL.plains, okR, okRs, wR, wRs, unlikeT]
theorem eqb_comm (a b : Vl) : a.eqb b = b.eqb a := by
  cases h : a.eqb b with
  | true => rw [eqb_eq h, eqb_refl]
  | false => cases k : b.eqb a with
    | false => rfl
    | true => rw [eqb_eq k, eqb_refl] at h; cases h
section
variable (c : Cl)
abbrev fe16 : EqF := eqFc c.Value (F_Value_UeqU c 16) noEq
theorem eqA_v (a b : Vl) (h : a.dp ≤ 16) : eqA (fe16 c) 6 (a.d c) (b.d c) = some (a.eqb b) := by
  have hu := ue c 16 a b h
  have hs : a.eqb b = true ∨ same (a.d c) (b.d c) = false := by
    cases q : a.eqb b with
    | true => exact .inl rfl
    | false => exact .inr (same_of c a b q)
  obtain ⟨s, x, y, e1⟩ := d_ins c a
  obtain ⟨s', x', y', e2⟩ := d_ins c b
  rw [e1, e2] at hu hs ⊢
  have hf : ∀ F, eqFc c.Value F noEq c.Value = some F := fun F => if_pos rfl
  have hp : ∀ fs b, eqPl (.ins c.Value fs) b = none := fun fs b => by simp [eqPl, DL.plain]
  simp only [mkV] at hu hs ⊢
  simp [eqA, hp, hf, ownEq, hu, FR.eqv, hs]
theorem eqR_v (a b : Vl) (h : a.dp ≤ 16) : eqR (fe16 c) (a.d c) (b.d c) = some (.bl (a.eqb b)) ∧ neR (fe16 c) (a.d c) (b.d c) = some (.bl (!(a.eqb b))) := by
  have e := eqA_v c a b h
  have e' : eqRA (fe16 c) (a.d c) (b.d c) = some (a.eqb b) := by unfold eqRA; rw [e]
  obtain ⟨s, x, y, e1⟩ := d_ins c a
  rw [e1] at e' ⊢
  constructor
  · show (eqRA _ _ _).map _ = _
    rw [e']; rfl
  · show (eqRA _ _ _).map _ = _
    rw [e']; rfl
theorem both_v (a b : Vl) (ha : a.dp ≤ 16) (hb : b.dp ≤ 16) : F_law_both c [.fz (a.d c), .fz (b.d c)] = .rt (.str (if a.eqb b = true then alikeT else unlikeT)) [] := by
  have e1 := eqR_v c a b ha
  have e2 := eqR_v c b a hb
  rw [eqb_comm b a] at e2
  have r1 := repr_alike
  have r2 := repr_unlike
  cases q : a.eqb b <;> rw [q] at e1 e2 <;> simp [F_law_both, b_law_both, e1, e2, r1, r2]
theorem ue_thing (n : Nat) (a : Vl) (t : D) (ht : isOwn c.Value [] t = some false) : F_Value_UeqU c (n + 1) [.fz (a.d c), .fz t] = .rt (.bl false) [] := by
  show runF 2 0 (b_Value_UeqU c (F_Value_UeqU c n)) _ = _
  simp [b_Value_UeqU, ht]
theorem both_t (a : Vl) (t : D) (hk : (kindD t).isSome = true) : F_law_both c [.fz (a.d c), .fz t] = .rt (.str unlikeT) [] := by
  have ht : isOwn c.Value [] t = some false := by cases t <;> first | rfl | (simp [kindD] at hk)
  have hu := ue_thing c 15 a t ht
  have r2 := repr_unlike
  obtain ⟨s, x, y, e1⟩ := d_ins c a
  rw [e1] at hu ⊢
  simp only [mkV] at hu ⊢
  have hf : ∀ F, eqFc c.Value F noEq c.Value = some F := fun F => if_pos rfl
  have hp : ∀ fs b, eqPl (.ins c.Value fs) b = none := fun fs b => by simp [eqPl, DL.plain]
  have hp2 : ∀ fs, eqPl t (.ins c.Value fs) = none := fun fs => by simp [eqPl, DL.plain]
  have hs : ∀ fs, same (.ins c.Value fs) t = false := fun fs => by cases t <;> first | (simp [same]; done) | (simp [kindD] at hk; done)
  have ow : ownEq (fe16 c) c.Value (.ins c.Value [("sign", .str s), ("first", x), ("second", y)]) t = some false := by
    simp [ownEq, hf, hu, FR.eqv, hs]
  have l : eqA (fe16 c) 6 (.ins c.Value [("sign", .str s), ("first", x), ("second", y)]) t = some false := by
    cases t <;> first | (simp [kindD] at hk; done) | (simp [eqA, hp]; exact ow)
  have r : eqA (fe16 c) 6 t (.ins c.Value [("sign", .str s), ("first", x), ("second", y)]) = none := by
    cases t <;> first | (simp [kindD] at hk; done) | simp [eqA, hp2]
  have l1 : eqRA (fe16 c) (.ins c.Value [("sign", .str s), ("first", x), ("second", y)]) t = some false := by unfold eqRA; rw [l]
  have r1' : eqRA (fe16 c) t (.ins c.Value [("sign", .str s), ("first", x), ("second", y)]) = some false := by
    unfold eqRA
    rw [r]
    show (if (kindD t).isSome = true then _ else _) = _
    rw [if_pos hk]; exact ow
  have x1 : eqR (fe16 c) (.ins c.Value [("sign", .str s), ("first", x), ("second", y)]) t = some (.bl false) := by
    show (eqRA _ _ _).map _ = _
    rw [l1]; rfl
  have x2 : neR (fe16 c) (.ins c.Value [("sign", .str s), ("first", x), ("second", y)]) t = some (.bl true) := by
    show (eqRA _ _ _).map _ = _
    rw [l1]; rfl
  have x3 : eqR (fe16 c) t (.ins c.Value [("sign", .str s), ("first", x), ("second", y)]) = some (.bl false) := by
    have : eqR (fe16 c) t (.ins c.Value [("sign", .str s), ("first", x), ("second", y)]) = (eqRA (fe16 c) t (.ins c.Value [("sign", .str s), ("first", x), ("second", y)])).map .bl := by cases t <;> rfl
    rw [this, r1']; rfl
  have x4 : neR (fe16 c) t (.ins c.Value [("sign", .str s), ("first", x), ("second", y)]) = some (.bl true) := by
    have : neR (fe16 c) t (.ins c.Value [("sign", .str s), ("first", x), ("second", y)]) = (eqRA (fe16 c) t (.ins c.Value [("sign", .str s), ("first", x), ("second", y)])).map (fun r => .bl (!r)) := by cases t <;> rfl
    rw [this, r1']; rfl
  simp [F_law_both, b_law_both, x1, x2, x3, x4, r2]
end
end Lk
namespace Lk
open PySem L2 DL
section
variable (c : Cl)
theorem draw_mo {F : FF} {M : FE} {wd wd1 wd2 m d : D} {r : DEnv} (hM : M (some (.bw wd) :: r) = .ok (.val m) (some (.bw wd1) :: r)) (e : F [.bw wd1, .fz m] = .ro d [wd2]) : fCall F [true, false] (fCons (fVar 0) (fCons M fNil)) (some (.bw wd) :: r) = .ok (.val d) (some (.bw wd2) :: r) := by
  simp [hM, e]
theorem call_rm {F : FF} {wd wd1 wd' d cd : D} {m : D} {M : FE} {r : DEnv} (hM : M (some (.bw wd) :: some (.fz cd) :: r) = .ok (.val m) (some (.bw wd1) :: some (.fz cd) :: r)) (e : F [.bw wd1, .fz cd, .fz m] = .rt d [wd']) : fCall F [true, false, false] (fCons (fVar 0) (fCons (fVar 1) (fCons M fNil))) (some (.bw wd) :: some (.fz cd) :: r) = .ok (.val d) (some (.bw wd') :: some (.fz cd) :: r) := by
  simp [hM, e]
theorem call_b {F : FF} {wd wd' m d x : D} {i : Nat} {M : FE} {r : DEnv} (hi : r[i]? = some (some (.fz x))) (hM : M (some (.bw wd) :: r) = .ok (.val m) (some (.bw wd') :: r)) (e : F [.fz x, .fz m] = .rt d []) : fCall F [false, false] (fCons (fVar (i + 1)) (fCons M fNil)) (some (.bw wd) :: r) = .ok (.val d) (some (.bw wd') :: r) := by
  simp [hi, hM, e]
theorem things_ok (xs : List Str) (hx : xs ≠ []) (v u : Vl) (rd : D) (hrd : ∃ ds, rd = .tup ds) (x0 : Str) (a0 a2 a3 a6 a8 : Option DV) :
    fBin eqD (fOO (fLc (fIter (fVar 9)) [10] (gS1 10) (fTst (fBin neD (fCall (F_law_both c) [false, false] (fCons (fVar 4) (fCons (fVar 10) fNil))) (fVar 7))) (fC (.int 1)))) (fOO (fLst fNil)) [a0, some (.fz (.lst (xs.map D.str))), a2, a3, some (.fz (v.d c)), some (.fz (u.d c)), a6, some (.fz (.str unlikeT)), a8, some (.fz (.lst [.non, .int 0, .int 1, .str "c", .str x0, .lst [v.d c], .tup [v.d c, u.d c], .lst (xs.map D.str), .dic [], rd])), none] =
      .ok (.val (.bl true)) [a0, some (.fz (.lst (xs.map D.str))), a2, a3, some (.fz (v.d c)), some (.fz (u.d c)), a6, some (.fz (.str unlikeT)), a8, some (.fz (.lst [.non, .int 0, .int 1, .str "c", .str x0, .lst [v.d c], .tup [v.d c, u.d c], .lst (xs.map D.str), .dic [], rd])), none] := by
  obtain ⟨ds, rfl⟩ := hrd
  have al : ∀ t ∈ ([.non, .int 0, .int 1, .str "c", .str x0, .lst [v.d c], .tup [v.d c, u.d c], .lst (xs.map D.str), .dic [], .tup ds] : List D), (kindD t).isSome = true := by
    intro t ht
    simp only [List.mem_cons, List.not_mem_nil, or_false] at ht
    rcases ht with rfl | rfl | rfl | rfl | rfl | rfl | rfl | rfl | rfl | rfl <;> rfl
  have ln : ([.non, .int 0, .int 1, .str "c", .str x0, .lst [v.d c], .tup [v.d c, u.d c], .lst (xs.map D.str), .dic [], .tup ds] : List D).length ≤ sizeLine := Nat.le_trans (by simp) s1000
  generalize ([.non, .int 0, .int 1, .str "c", .str x0, .lst [v.d c], .tup [v.d c, u.d c], .lst (xs.map D.str), .dic [], .tup ds] : List D) = L at al ln
  have e1 := lcL_filter (vs := [10]) (g := gS1 10) (t := fTst (fBin neD (fCall (F_law_both c) [false, false] (fCons (fVar 4) (fCons (fVar 10) fNil))) (fVar 7))) (m := fC (.int 1)) (ρ := [a0, some (.fz (.lst (xs.map D.str))), a2, a3, some (.fz (v.d c)), some (.fz (u.d c)), a6, some (.fz (.str unlikeT)), a8, some (.fz (.lst L)), none]) L (fun t => t) (fun _ => D.int 1) (fun _ => false) ln fun t ht => by
    have b := both_t c v t (al t ht)
    refine ⟨[a0, some (.fz (.lst (xs.map D.str))), a2, a3, some (.fz (v.d c)), some (.fz (u.d c)), a6, some (.fz (.str unlikeT)), a8, some (.fz (.lst L)), some (.fz t)], [a0, some (.fz (.lst (xs.map D.str))), a2, a3, some (.fz (v.d c)), some (.fz (u.d c)), a6, some (.fz (.str unlikeT)), a8, some (.fz (.lst L)), some (.fz t)], by simp [wipeD], by simp [b], (fun h => by cases h), fun _ => by simp [backD, keepFz]⟩
  have ml : L.map (fun t => t) = L := List.map_id' L
  have fl : (L.filter fun _ => false) = [] := by simp
  rw [ml, fl] at e1
  have z : eqD (.lst []) (.lst []) = some (.bl true) := rfl
  exact bin_v (foo_v ((flc_v (ds := L) (by simp)).trans e1)) (by simp) z
theorem fits_ok (w : Well) (k : Nat) (hw : WOk k w) (hk : k + 2000 < 2 ^ 38) : ∃ w' : Well, F_law_fits c [.bw w.d] = .rt (.bl true) [w'.d] ∧ WOk (k + 1000) w' := by
  obtain ⟨m0, w1, e1, m00, m01, k1⟩ := take_ok c w k 8 hw (by omega) (by decide) (by decide)
  obtain ⟨m, rfl⟩ := Int.eq_ofNat_of_zero_le m00
  obtain ⟨xs, w2, e2, xl, xn, k2⟩ := cells_ok c w1 (k + 1) k1 (by omega) (1 + m) (by omega) (by omega)
  have xne : xs ≠ [] := fun z => by rw [z] at xl; simp at xl; omega
  have xl1 : xs.length ≤ 100 := by omega
  obtain ⟨x0, g0⟩ : ∃ x0 : Str, (xs.map D.str)[0]? = some (.str x0) := by
    cases xs with
    | nil => exact absurd rfl xne
    | cons y ys => exact ⟨y, rfl⟩
  have S1 : fCall (F_law_cells c) [true, false] (fCons (fVar 0) (fCons (fBin addD (fC (.int 1)) (fCall (F_law_take c) [true, false] (fCons (fVar 0) (fCons (fC (.int 8)) fNil)))) fNil)) [some (.bw w.d), none, none, none, none, none, none, none, none, none, none] = .ok (.val (.lst (xs.map D.str))) [some (.bw w2.d), none, none, none, none, none, none, none, none, none, none] :=
    draw_mo (bin_v rfl (draw_v e1) (by show some (D.int (1 + (m : Int))) = _; rfl)) (by rw [show (1 : Int) + (m : Int) = ((1 + m : Nat) : Int) by omega]; exact e2)
  obtain ⟨u, w3, e3, u0, u1, k3⟩ := take_ok c w2 (k + 1 + 20) 2 k2 (by omega) (by decide) (by decide)
  obtain ⟨b, hb, hb1, hb2⟩ : ∃ b : Int, [D.int 9, D.int 13][u.toNat]? = some (.int b) ∧ 1 ≤ b ∧ b ≤ 13 := by
    rcases (by omega : u = 0 ∨ u = 1) with rfl | rfl
    · exact ⟨9, rfl, by omega, by omega⟩
    · exact ⟨13, rfl, by omega, by omega⟩
  obtain ⟨t0, w4, e4, t00, t01, k4⟩ := take_ok c w3 (k + 1 + 20 + 1) b k3 (by omega) (by omega) (Nat.lt_of_le_of_lt (Nat.log2_le_self _) (by omega))
  obtain ⟨t, rfl⟩ := Int.eq_ofNat_of_zero_le t00
  obtain ⟨r, w5, e5, hr, hs, k5⟩ := recipe_ok c xs xne xl1 xn 16 t w4 (k + 1 + 20 + 2) (by omega) (by omega) k4 (by omega)
  have S2 : fCall (F_law_recipe c 16) [true, false, false] (fCons (fVar 0) (fCons (fVar 1) (fCons (fCall (F_law_take c) [true, false] (fCons (fVar 0) (fCons (fBin itemD (fOO (fLst (fCons (fC (.int 9)) (fCons (fC (.int 13)) fNil)))) (fCall (F_law_take c) [true, false] (fCons (fVar 0) (fCons (fC (.int 2)) fNil)))) fNil))) fNil))) [some (.bw w2.d), some (.fz (.lst (xs.map D.str))), none, none, none, none, none, none, none, none, none] = .ok (.val r.d) [some (.bw w5.d), some (.fz (.lst (xs.map D.str))), none, none, none, none, none, none, none, none, none] :=
    call_rm (draw_m (m := .int b) (wd1 := w3.d) (by simp [e3, u0, hb]) e4) e5
  obtain ⟨q0, w6, e6, hq0, hqs0, k6⟩ := changed_ok c xs xne xl1 16 r hr (by omega) (by omega) w5 _ k5 (by omega)
  have S3 : fCall (F_law_changed c 16) [true, false, false] (fCons (fVar 0) (fCons (fVar 2) (fCons (fVar 1) fNil))) [some (.bw w5.d), some (.fz (.lst (xs.map D.str))), some (.fz r.d), none, none, none, none, none, none, none, none] = .ok (.val q0.d) [some (.bw w6.d), some (.fz (.lst (xs.map D.str))), some (.fz r.d), none, none, none, none, none, none, none, none] := by
    simp [e6]
  have sg := signs_ok c 16 q0 (by omega)
  obtain ⟨q, hq, hqs, S4⟩ : ∃ q : Rc, q.good xs ∧ q.sg ≤ 12 ∧ fIf (fTst (fBin gtD (fCall (F_law_signs c 16) [false] (fCons (fVar 3) fNil)) (fC (.int 12)))) (fSet (fVar 2) (gS1 3)) fSkip [some (.bw w6.d), some (.fz (.lst (xs.map D.str))), some (.fz r.d), some (.fz q0.d), none, none, none, none, none, none, none] = .nx [some (.bw w6.d), some (.fz (.lst (xs.map D.str))), some (.fz r.d), some (.fz q.d), none, none, none, none, none, none, none] := by
    by_cases z : 12 < q0.sg
    · have z' : (12 : Int) < (q0.sg : Int) := by omega
      exact ⟨r, hr, by omega, by simp [sg]; intro h; omega⟩
    · exact ⟨q0, hq0, by omega, by simp [sg]; intro h; omega⟩
  obtain ⟨st1, w7, e7, _, _, k7⟩ := take_ok c w6 _ 2 k6 (by omega) (by decide) (by decide)
  obtain ⟨st2, w8, e8, _, _, k8⟩ := take_ok c w7 _ 2 k7 (by omega) (by decide) (by decide)
  have b1 := (built_ok c xs xn st1 30 r hr).1 (by omega)
  have b2 := (built_ok c xs xn st2 30 q hq).1 (by omega)
  have b0 := (built_ok c xs xn 0 30 r hr).1 (by omega)
  have dr := rc_dp r
  have dq := rc_dp q
  have S5 : fCall (F_law_built c 30) [false, false] (fCons (fVar 2) (fCons (fCall (F_law_take c) [true, false] (fCons (fVar 0) (fCons (fC (.int 2)) fNil))) fNil)) [some (.bw w6.d), some (.fz (.lst (xs.map D.str))), some (.fz r.d), some (.fz q.d), none, none, none, none, none, none, none] = .ok (.val (r.v.d c)) [some (.bw w7.d), some (.fz (.lst (xs.map D.str))), some (.fz r.d), some (.fz q.d), none, none, none, none, none, none, none] :=
    call_b (i := 1) rfl (draw_v e7) b1
  have S6 : fCall (F_law_built c 30) [false, false] (fCons (fVar 3) (fCons (fCall (F_law_take c) [true, false] (fCons (fVar 0) (fCons (fC (.int 2)) fNil))) fNil)) [some (.bw w7.d), some (.fz (.lst (xs.map D.str))), some (.fz r.d), some (.fz q.d), some (.fz (r.v.d c)), none, none, none, none, none, none] = .ok (.val (q.v.d c)) [some (.bw w8.d), some (.fz (.lst (xs.map D.str))), some (.fz r.d), some (.fz q.d), some (.fz (r.v.d c)), none, none, none, none, none, none] :=
    call_b (i := 2) rfl (draw_v e8) b2
  have ra := repr_alike
  have ru := repr_unlike
  have S7 : fSet (fTup (fCons (fCa reprF (fCons (fOO (fLst (fCons (fC (.bl true)) (fCons (fC (.bl true)) (fCons (fC (.bl false)) (fCons (fC (.bl false)) fNil)))))) fNil)) (fCons (fCa reprF (fCons (fOO (fLst (fCons (fC (.bl false)) (fCons (fC (.bl false)) (fCons (fC (.bl true)) (fCons (fC (.bl true)) fNil)))))) fNil)) fNil))) (gT1 2 (gC1 (gS1 6) (gC1 (gS1 7) gN0))) [some (.bw w8.d), some (.fz (.lst (xs.map D.str))), some (.fz r.d), some (.fz q.d), some (.fz (r.v.d c)), some (.fz (q.v.d c)), none, none, none, none, none] = .nx [some (.bw w8.d), some (.fz (.lst (xs.map D.str))), some (.fz r.d), some (.fz q.d), some (.fz (r.v.d c)), some (.fz (q.v.d c)), some (.fz (.str alikeT)), some (.fz (.str unlikeT)), none, none, none] := by
    simp [ra, ru]
  have eq : eqD r.d q.d = some (.bl (r.v.eqb q.v)) := by
    have p1 := plain_rc xs xn r 64 hr (by omega)
    have p2 := plain_rc xs xn q 64 hq (by omega)
    obtain ⟨ds, ed⟩ := rc_tup r
    rw [← rc_eqv xs r q hr hq]
    rw [ed] at p1 ⊢
    show (if plain 64 (.tup ds) = true ∧ plain 64 q.d = true then some (D.bl (PyData.eqv (py (.tup ds)) (py q.d))) else none) = _
    rw [if_pos ⟨p1, p2⟩]
  have bo1 := both_v c r.v q.v (by omega) (by omega)
  have bo2 := both_v c r.v r.v (by omega) (by omega)
  rw [eqb_refl, if_pos rfl] at bo2
  have bo3 := both_v c (.inv r.v) (.inv q.v) (by simp only [Vl.dp]; omega) (by simp only [Vl.dp]; omega)
  rw [show (Vl.inv r.v).eqb (Vl.inv q.v) = r.v.eqb q.v from rfl] at bo3
  have bo4 := both_v c (.bin .mod r.v (.num 3)) (.bin .mod q.v (.num 3)) (by simp only [Vl.dp]; omega) (by simp only [Vl.dp]; omega)
  rw [show (Vl.bin .mod r.v (.num 3)).eqb (Vl.bin .mod q.v (.num 3)) = r.v.eqb q.v by simp [Vl.eqb]] at bo4
  have f1 := rest_ok c r.v 3 (by omega)
  have f2 := rest_ok c q.v 3 (by omega)
  have i1 := insOf_d c r.v "rest" (by decide) (by decide) (by decide)
  have i2 := insOf_d c q.v "rest" (by decide) (by decide) (by decide)
  have S8 : fSet (fIfE (fTst (fBin eqD (fVar 2) (fVar 3))) (fVar 6) (fVar 7)) (gS1 8) [some (.bw w8.d), some (.fz (.lst (xs.map D.str))), some (.fz r.d), some (.fz q.d), some (.fz (r.v.d c)), some (.fz (q.v.d c)), some (.fz (.str alikeT)), some (.fz (.str unlikeT)), none, none, none] = .nx [some (.bw w8.d), some (.fz (.lst (xs.map D.str))), some (.fz r.d), some (.fz q.d), some (.fz (r.v.d c)), some (.fz (q.v.d c)), some (.fz (.str alikeT)), some (.fz (.str unlikeT)), some (.fz (.str (if r.v.eqb q.v = true then alikeT else unlikeT))), none, none] := by
    cases z : r.v.eqb q.v <;> rw [z] at eq <;> simp [eq]
  generalize (if r.v.eqb q.v = true then alikeT else unlikeT) = ow at bo1 bo3 bo4 S8
  have S9 : fIf (fOrT (fTst (fBin neD (fCall (F_law_both c) [false, false] (fCons (fVar 4) (fCons (fVar 5) fNil))) (fVar 8))) (fTst (fBin neD (fCall (F_law_both c) [false, false] (fCons (fVar 4) (fCons (fCall (F_law_built c 30) [false, false] (fCons (fVar 2) (fCons (fC (.int 0)) fNil))) fNil))) (fVar 6)))) (fRet (fC (.bl false))) fSkip [some (.bw w8.d), some (.fz (.lst (xs.map D.str))), some (.fz r.d), some (.fz q.d), some (.fz (r.v.d c)), some (.fz (q.v.d c)), some (.fz (.str alikeT)), some (.fz (.str unlikeT)), some (.fz (.str ow)), none, none] = .nx [some (.bw w8.d), some (.fz (.lst (xs.map D.str))), some (.fz r.d), some (.fz q.d), some (.fz (r.v.d c)), some (.fz (q.v.d c)), some (.fz (.str alikeT)), some (.fz (.str unlikeT)), some (.fz (.str ow)), none, none] := by
    simp [bo1, bo2, b0]
  have S10 : fIf (fOrT (fTst (fBin neD (fCall (F_law_both c) [false, false] (fCons (fInv c.Value (F_Value_UinvertU c) (fVar 4)) (fCons (fInv c.Value (F_Value_UinvertU c) (fVar 5)) fNil))) (fVar 8))) (fTst (fBin neD (fCall (F_law_both c) [false, false] (fCons (fMeth c.Value "rest" (F_Value_rest c) [false, false] (fVar 4) (fCons (fC (.int 3)) fNil)) (fCons (fMeth c.Value "rest" (F_Value_rest c) [false, false] (fVar 5) (fCons (fC (.int 3)) fNil)) fNil))) (fVar 8)))) (fRet (fC (.bl false))) fSkip [some (.bw w8.d), some (.fz (.lst (xs.map D.str))), some (.fz r.d), some (.fz q.d), some (.fz (r.v.d c)), some (.fz (q.v.d c)), some (.fz (.str alikeT)), some (.fz (.str unlikeT)), some (.fz (.str ow)), none, none] = .nx [some (.bw w8.d), some (.fz (.lst (xs.map D.str))), some (.fz r.d), some (.fz q.d), some (.fz (r.v.d c)), some (.fz (q.v.d c)), some (.fz (.str alikeT)), some (.fz (.str unlikeT)), some (.fz (.str ow)), none, none] := by
    simp [bo3, bo4, f1, f2, i1, i2]
  have S11 : fSet (fOO (fLst (fCons (fC .non) (fCons (fC (.int 0)) (fCons (fC (.int 1)) (fCons (fC (.str "c")) (fCons (fBin itemD (fVar 1) (fC (.int 0))) (fCons (fOO (fLst (fCons (fVar 4) fNil))) (fCons (fTup (fCons (fVar 4) (fCons (fVar 5) fNil))) (fCons (fVar 1) (fCons (fOO fDict0) (fCons (fVar 2) fNil)))))))))))) (gS1 9) [some (.bw w8.d), some (.fz (.lst (xs.map D.str))), some (.fz r.d), some (.fz q.d), some (.fz (r.v.d c)), some (.fz (q.v.d c)), some (.fz (.str alikeT)), some (.fz (.str unlikeT)), some (.fz (.str ow)), none, none] = .nx [some (.bw w8.d), some (.fz (.lst (xs.map D.str))), some (.fz r.d), some (.fz q.d), some (.fz (r.v.d c)), some (.fz (q.v.d c)), some (.fz (.str alikeT)), some (.fz (.str unlikeT)), some (.fz (.str ow)), some (.fz (.lst [.non, .int 0, .int 1, .str "c", .str x0, .lst [r.v.d c], .tup [r.v.d c, q.v.d c], .lst (xs.map D.str), .dic [], r.d])), none] := by
    simp [g0]
  have S12 := things_ok c xs xne r.v q.v r.d (rc_tup r) x0 (some (.bw w8.d)) (some (.fz r.d)) (some (.fz q.d)) (some (.fz (.str alikeT))) (some (.fz (.str ow)))
  unfold F_law_fits b_law_fits
  rw [runF_s, if_pos (by simp)]
  show ∃ w' : Well, Z.fin _ ((fSeq _ _) [some (.bw w.d), none, none, none, none, none, none, none, none, none, none]) = _ ∧ _
  rw [seq_e, fset_v S1, seq_nx]
  simp only [List.set_cons_succ, List.set_cons_zero]
  rw [seq_e, fset_v S2, seq_nx]
  simp only [List.set_cons_succ, List.set_cons_zero]
  rw [seq_e, fset_v S3, seq_nx]
  simp only [List.set_cons_succ, List.set_cons_zero]
  rw [seq_e, S4, seq_nx, seq_e, fset_v S5, seq_nx]
  simp only [List.set_cons_succ, List.set_cons_zero]
  rw [seq_e, fset_v S6, seq_nx]
  simp only [List.set_cons_succ, List.set_cons_zero]
  rw [seq_e, S7, seq_nx, seq_e, S8, seq_nx, seq_e, S9, seq_nx, seq_e, S10, seq_nx, seq_e, S11, seq_nx, fret_v S12]
  exact ⟨w8, by simp, k8.mono (by omega)⟩
end
end Lk
/-! the law over its places and turns -/
namespace Lk
open PySem L2 DL
section
variable (c : Cl)
theorem rng_get {lo : Int} {n i : Nat} {d : D} (h : (rngD lo n)[i]? = some d) : d = .int (lo + i) ∧ i < n := by
  unfold rngD at h
  rw [List.getElem?_map] at h
  by_cases q : i < n
  · rw [List.getElem?_range q] at h
    exact ⟨(Option.some.inj h).symm, q⟩
  · rw [List.getElem?_eq_none (by simp; omega)] at h
    cases h
theorem rng_len (lo : Int) (n : Nat) : (rngD lo n).length = n := by simp [rngD]
theorem well_ok (ns : List Int) (i : Nat) (hn : ns.length ≤ 63) (hi : i ≤ 64) : ∃ w : Well, F_law_well c [.fz (.lst (ns.map D.int)), .fz (.int i)] = .ro w.d [] ∧ WOk 0 w := by
  have core : ∀ f : Int, (∃ w : Well, (fSeq (fSet (fBin modD (fCa intD (fCons (fBin addD (fBin mulD (fCa (i1D fun i => if i < 0 then -i else i) (fCons (fVar 2) fNil)) (fC (.int 2))) (fCa intD (fCons (fBin ltD (fVar 2) (fC (.int 0))) fNil))) fNil)) (fC (.int 2305843009213693951))) (gS1 3))
    (fRetO (fLst (fCons (fBin mulD (fVar 2) (fCa intD (fCons (fBin geD (fVar 2) (fBin powD (fC (.int 10)) (fC (.int 18)))) fNil))) (fCons (fBin addD (fVar 3) (fBin mulD (fC (.int 1000003)) (fVar 1))) (fCons (fC (.int 0)) fNil)))))) [some (.fz (.lst (ns.map D.int))), some (.fz (.int i)), some (.fz (.int f)), none] =
      .ro w.d [some (.fz (.lst (ns.map D.int))), some (.fz (.int i)), some (.fz (.int f)), some (.fz (.int (((if f < 0 then -f else f) * 2 + (if f < 0 then 1 else 0)) % 2305843009213693951)))] ∧ WOk 0 w) := by
    intro f
    generalize hx : ((if f < 0 then -f else f) * 2 + (if f < 0 then 1 else 0) : Int) = x
    have r1 := Int.emod_nonneg x (by decide : (2305843009213693951 : Int) ≠ 0)
    have r2 := Int.emod_lt_of_pos x (by decide : (0 : Int) < 2305843009213693951)
    have m1 : ∀ y : Int, mulOk y 2 = true := fun y => mulOk_of' (by decide)
    have m2 : mulOk 1000003 i = true := mulOk_of (by decide)
    by_cases q : 1000000000000000000 ≤ f
    · have m3 : mulOk f 1 = true := mulOk_of' (by decide)
      exact ⟨⟨f * 1, x % 2305843009213693951 + 1000003 * i, 0⟩, by simp [m1, m2, m3, hx, q, Well.d], by show 0 ≤ x % 2305843009213693951 + 1000003 * (i : Int); omega, by show x % 2305843009213693951 + 1000003 * (i : Int) < 2 ^ 62; omega, by show (0 : Int) ≤ 0; omega, by show (0 : Int) ≤ 0; omega⟩
    · have m3 : mulOk f 0 = true := mulOk_of' (by decide)
      exact ⟨⟨f * 0, x % 2305843009213693951 + 1000003 * i, 0⟩, by simp [m1, m2, m3, hx, q, Well.d], by show 0 ≤ x % 2305843009213693951 + 1000003 * (i : Int); omega, by show x % 2305843009213693951 + 1000003 * (i : Int) < 2 ^ 62; omega, by show (0 : Int) ≤ 0; omega, by show (0 : Int) ≤ 0; omega⟩
  unfold F_law_well b_law_well
  by_cases q : i < ns.length
  · obtain ⟨w, e, hw⟩ := core ns[i]
    refine ⟨w, ?_, hw⟩
    rw [runF_s, if_pos (by simp)]
    have h1 : (fSet (fC (.int 0)) (gS1 2)) ([DV.fz (.lst (ns.map D.int)), .fz (.int i)].map some ++ List.replicate 2 none) = .nx [some (.fz (.lst (ns.map D.int))), some (.fz (.int i)), some (.fz (.int 0)), none] := by simp
    have h2 : (fIf (fTst (fBin ltD (fVar 1) (fCa lenD (fCons (fVar 0) fNil)))) (fSet (fBin itemD (fVar 0) (fVar 1)) (gS1 2)) fSkip) [some (.fz (.lst (ns.map D.int))), some (.fz (.int i)), some (.fz (.int 0)), none] = .nx [some (.fz (.lst (ns.map D.int))), some (.fz (.int i)), some (.fz (.int ns[i])), none] := by
      have : (i : Int) < (ns.length : Int) := by omega
      simp [this, q]
    show Z.fin _ ((fSeq _ (fSeq _ _)) _) = _
    rw [show ∀ (f g : FS) (ρ : DEnv), fSeq f g ρ = (f ρ).seq g from fun _ _ _ => rfl, h1, seq_nx, show ∀ (f g : FS) (ρ : DEnv), fSeq f g ρ = (f ρ).seq g from fun _ _ _ => rfl, h2, seq_nx, e]
    simp
  · obtain ⟨w, e, hw⟩ := core 0
    refine ⟨w, ?_, hw⟩
    rw [runF_s, if_pos (by simp)]
    have h1 : (fSet (fC (.int 0)) (gS1 2)) ([DV.fz (.lst (ns.map D.int)), .fz (.int i)].map some ++ List.replicate 2 none) = .nx [some (.fz (.lst (ns.map D.int))), some (.fz (.int i)), some (.fz (.int 0)), none] := by simp
    have h2 : (fIf (fTst (fBin ltD (fVar 1) (fCa lenD (fCons (fVar 0) fNil)))) (fSet (fBin itemD (fVar 0) (fVar 1)) (gS1 2)) fSkip) [some (.fz (.lst (ns.map D.int))), some (.fz (.int i)), some (.fz (.int 0)), none] = .nx [some (.fz (.lst (ns.map D.int))), some (.fz (.int i)), some (.fz (.int 0)), none] := by
      have : ¬ (i : Int) < (ns.length : Int) := by omega
      simp [this]
    show Z.fin _ ((fSeq _ (fSeq _ _)) _) = _
    rw [show ∀ (f g : FS) (ρ : DEnv), fSeq f g ρ = (f ρ).seq g from fun _ _ _ => rfl, h1, seq_nx, show ∀ (f g : FS) (ρ : DEnv), fSeq f g ρ = (f ρ).seq g from fun _ _ _ => rfl, h2, seq_nx, e]
    simp
theorem law_holds (c : Cl) (ok : ClOk c) (ns : List Int) (hn : ns.length ≤ 63) (hb : ∀ z ∈ ns, Builtin.Int.intBits z ≤ 1048576) : F_law c [.fz (.lst (ns.map D.int))] = .rt (.bl true) [] := by
  generalize hN : (if 1 < (if (ns.length : Int) < 24 then (ns.length : Int) else 24) then (if (ns.length : Int) < 24 then (ns.length : Int) else 24) else 1) = N
  have bN : 1 ≤ N ∧ N ≤ 64 := by omega
  obtain ⟨ρ', e, o1, o2, o3, hI⟩ := forL_nx (g := gS1 1) (b := (fSeq (fSetO 2 (fCallO (F_law_well c) [false, false] (fCons (fVar 0) (fCons (fVar 1) fNil))))
    (fFor (fRng1 (fCons (fC (.int 2)) fNil)) (gS1 3)
      (fIf (fNotT (fTst (fCall (F_law_fits c) [true] (fCons (fVar 2) fNil)))) (fRet (fC (.bl false))) fSkip)))) (ds := rngD 0 N.toNat) (ρ := [some (.fz (.lst (ns.map D.int))), none, none, none])
    (fun i ρ => ∃ o1 o2 o3, ρ = [some (.fz (.lst (ns.map D.int))), o1, o2, o3]) ⟨none, none, none, rfl⟩ (by
      rintro i d ρ hd ⟨o1, o2, o3, rfl⟩
      obtain ⟨rfl, hi⟩ := rng_get hd
      obtain ⟨w, ew, kw⟩ := well_ok c ns i hn (by omega)
      obtain ⟨ρ2, e2, w2, o4, hw2, kw2⟩ := forL_nx (g := gS1 3) (b := fIf (fNotT (fTst (fCall (F_law_fits c) [true] (fCons (fVar 2) fNil)))) (fRet (fC (.bl false))) fSkip) (ds := rngD 0 2) (ρ := [some (.fz (.lst (ns.map D.int))), some (.fz (.int i)), some (.ow w.d), o3])
        (fun t ρ => ∃ (w2 : Well) (o4 : Option DV), ρ = [some (.fz (.lst (ns.map D.int))), some (.fz (.int i)), some (.ow w2.d), o4] ∧ WOk (1000 * t) w2) ⟨w, o3, rfl, kw⟩ (by
          rintro t d ρ hd ⟨w2, o4, rfl, kw2⟩
          obtain ⟨rfl, ht⟩ := rng_get hd
          obtain ⟨w3, e3, k3⟩ := fits_ok c w2 (1000 * t) kw2 (by omega)
          exact ⟨_, [some (.fz (.lst (ns.map D.int))), some (.fz (.int i)), some (.ow w3.d), some (.fz (.int t))], gS1_s .., .inl (by simp [e3]), w3, _, rfl, k3.mono (by omega)⟩)
      subst hw2
      refine ⟨_, _, gS1_s .., .inl ?_, some (.fz (.int i)), some (.ow w2.d), o4, rfl⟩
      simp [ew, e2])
  subst hI
  unfold F_law b_law
  have b1 : -(2 ^ 62) ≤ N := by omega
  have b2 : N < 2 ^ 62 := by omega
  have b3 : -4611686018427387904 ≤ N := by omega
  have b4 : N < 4611686018427387904 := by omega
  simp [hN, b1, b2, b3, b4, e]
end
end Lk
namespace Lk
open PySem L2 DL
def top (i : Nat) : Stmt := PySem.Challenge.pw_elderruns_k04_values_built_unlike.main.body.getD i (.Pass ⟨0, 0, 0, 0⟩)
abbrev s_RunError_UinitU : Stmt := inClass (top 2) 0
abbrev s_is_name : Stmt := top 8
abbrev s_check_name : Stmt := top 9
abbrev s_check_divisor : Stmt := top 10
abbrev s_named : Stmt := top 11
abbrev s_now : Stmt := top 12
abbrev s_passed : Stmt := top 13
abbrev s_number : Stmt := top 14
abbrev s_value_of : Stmt := top 15
abbrev s_Value_UinitU : Stmt := inClass (top 21) 0
abbrev s_Value_UaddU : Stmt := inClass (top 21) 4
abbrev s_Value_UraddU : Stmt := inClass (top 21) 5
abbrev s_Value_UsubU : Stmt := inClass (top 21) 6
abbrev s_Value_UrsubU : Stmt := inClass (top 21) 7
abbrev s_Value_UmulU : Stmt := inClass (top 21) 8
abbrev s_Value_UrmulU : Stmt := inClass (top 21) 9
abbrev s_Value_UfloordivU : Stmt := inClass (top 21) 10
abbrev s_Value_UandU : Stmt := inClass (top 21) 11
abbrev s_Value_UrandU : Stmt := inClass (top 21) 12
abbrev s_Value_UorU : Stmt := inClass (top 21) 13
abbrev s_Value_UrorU : Stmt := inClass (top 21) 14
abbrev s_Value_UinvertU : Stmt := inClass (top 21) 15
abbrev s_Value_UeqU : Stmt := inClass (top 21) 16
abbrev s_Value_rest : Stmt := inClass (top 21) 17
abbrev s_Value_same : Stmt := inClass (top 21) 18
abbrev s_Value_less : Stmt := inClass (top 21) 19
abbrev s_law_well : Stmt := top 23
abbrev s_law_take : Stmt := top 24
abbrev s_law_cells : Stmt := top 25
abbrev s_law_integer : Stmt := top 26
abbrev s_law_recipe : Stmt := top 27
abbrev s_law_signs : Stmt := top 28
abbrev s_law_joined : Stmt := top 29
abbrev s_law_side : Stmt := top 30
abbrev s_law_built : Stmt := top 31
abbrev s_law_leaf : Stmt := top 32
abbrev s_law_changed : Stmt := top 33
abbrev s_law_both : Stmt := top 34
abbrev s_law_fits : Stmt := top 35
abbrev s_law : Stmt := top 36
theorem sc_RunError_UinitU : FnScope ["self", "value"] ["self", "value"] (defScope s_RunError_UinitU) := ⟨rfl, rfl, rfl, by decide +kernel, rfl, by decide +kernel, by decide +kernel⟩
theorem sc_is_name : FnScope ["name", "letter"] ["name"] (defScope s_is_name) := ⟨rfl, rfl, rfl, by decide +kernel, rfl, by decide +kernel, by decide +kernel⟩
theorem sc_check_name : FnScope ["name"] ["name"] (defScope s_check_name) := ⟨rfl, rfl, rfl, by decide +kernel, rfl, by decide +kernel, by decide +kernel⟩
theorem sc_check_divisor : FnScope ["number"] ["number"] (defScope s_check_divisor) := ⟨rfl, rfl, rfl, by decide +kernel, rfl, by decide +kernel, by decide +kernel⟩
theorem sc_named : FnScope ["name"] ["name"] (defScope s_named) := ⟨rfl, rfl, rfl, by decide +kernel, rfl, by decide +kernel, by decide +kernel⟩
theorem sc_now : FnScope ["name"] ["name"] (defScope s_now) := ⟨rfl, rfl, rfl, by decide +kernel, rfl, by decide +kernel, by decide +kernel⟩
theorem sc_passed : FnScope [] [] (defScope s_passed) := ⟨rfl, rfl, rfl, by decide +kernel, rfl, by decide +kernel, by decide +kernel⟩
theorem sc_number : FnScope ["n"] ["n"] (defScope s_number) := ⟨rfl, rfl, rfl, by decide +kernel, rfl, by decide +kernel, by decide +kernel⟩
theorem sc_value_of : FnScope ["part"] ["part"] (defScope s_value_of) := ⟨rfl, rfl, rfl, by decide +kernel, rfl, by decide +kernel, by decide +kernel⟩
theorem sc_Value_UinitU : FnScope ["self", "sign", "first", "second"] ["self", "sign", "first", "second"] (defScope s_Value_UinitU) := ⟨rfl, rfl, rfl, by decide +kernel, rfl, by decide +kernel, by decide +kernel⟩
theorem sc_Value_UaddU : FnScope ["self", "other"] ["self", "other"] (defScope s_Value_UaddU) := ⟨rfl, rfl, rfl, by decide +kernel, rfl, by decide +kernel, by decide +kernel⟩
theorem sc_Value_UraddU : FnScope ["self", "other"] ["self", "other"] (defScope s_Value_UraddU) := ⟨rfl, rfl, rfl, by decide +kernel, rfl, by decide +kernel, by decide +kernel⟩
theorem sc_Value_UsubU : FnScope ["self", "other"] ["self", "other"] (defScope s_Value_UsubU) := ⟨rfl, rfl, rfl, by decide +kernel, rfl, by decide +kernel, by decide +kernel⟩
theorem sc_Value_UrsubU : FnScope ["self", "other"] ["self", "other"] (defScope s_Value_UrsubU) := ⟨rfl, rfl, rfl, by decide +kernel, rfl, by decide +kernel, by decide +kernel⟩
theorem sc_Value_UmulU : FnScope ["self", "other"] ["self", "other"] (defScope s_Value_UmulU) := ⟨rfl, rfl, rfl, by decide +kernel, rfl, by decide +kernel, by decide +kernel⟩
theorem sc_Value_UrmulU : FnScope ["self", "other"] ["self", "other"] (defScope s_Value_UrmulU) := ⟨rfl, rfl, rfl, by decide +kernel, rfl, by decide +kernel, by decide +kernel⟩
theorem sc_Value_UfloordivU : FnScope ["self", "other"] ["self", "other"] (defScope s_Value_UfloordivU) := ⟨rfl, rfl, rfl, by decide +kernel, rfl, by decide +kernel, by decide +kernel⟩
theorem sc_Value_UandU : FnScope ["self", "other"] ["self", "other"] (defScope s_Value_UandU) := ⟨rfl, rfl, rfl, by decide +kernel, rfl, by decide +kernel, by decide +kernel⟩
theorem sc_Value_UrandU : FnScope ["self", "other"] ["self", "other"] (defScope s_Value_UrandU) := ⟨rfl, rfl, rfl, by decide +kernel, rfl, by decide +kernel, by decide +kernel⟩
theorem sc_Value_UorU : FnScope ["self", "other"] ["self", "other"] (defScope s_Value_UorU) := ⟨rfl, rfl, rfl, by decide +kernel, rfl, by decide +kernel, by decide +kernel⟩
theorem sc_Value_UrorU : FnScope ["self", "other"] ["self", "other"] (defScope s_Value_UrorU) := ⟨rfl, rfl, rfl, by decide +kernel, rfl, by decide +kernel, by decide +kernel⟩
theorem sc_Value_UinvertU : FnScope ["self"] ["self"] (defScope s_Value_UinvertU) := ⟨rfl, rfl, rfl, by decide +kernel, rfl, by decide +kernel, by decide +kernel⟩
theorem sc_Value_UeqU : FnScope ["self", "other"] ["self", "other"] (defScope s_Value_UeqU) := ⟨rfl, rfl, rfl, by decide +kernel, rfl, by decide +kernel, by decide +kernel⟩
theorem sc_Value_rest : FnScope ["self", "n"] ["self", "n"] (defScope s_Value_rest) := ⟨rfl, rfl, rfl, by decide +kernel, rfl, by decide +kernel, by decide +kernel⟩
theorem sc_Value_same : FnScope ["self", "other"] ["self", "other"] (defScope s_Value_same) := ⟨rfl, rfl, rfl, by decide +kernel, rfl, by decide +kernel, by decide +kernel⟩
theorem sc_Value_less : FnScope ["self", "other"] ["self", "other"] (defScope s_Value_less) := ⟨rfl, rfl, rfl, by decide +kernel, rfl, by decide +kernel, by decide +kernel⟩
theorem sc_law_well : FnScope ["script", "place", "figure", "seed"] ["script", "place"] (defScope s_law_well) := ⟨rfl, rfl, rfl, by decide +kernel, rfl, by decide +kernel, by decide +kernel⟩
theorem sc_law_take : FnScope ["well", "many", "taken", "mixed"] ["well", "many"] (defScope s_law_take) := ⟨rfl, rfl, rfl, by decide +kernel, rfl, by decide +kernel, by decide +kernel⟩
theorem sc_law_cells : FnScope ["well", "many", "letters", "way", "at", "k", "words", "base", "turn", "spot", "pace"] ["well", "many"] (defScope s_law_cells) := ⟨rfl, rfl, rfl, by decide +kernel, rfl, by decide +kernel, by decide +kernel⟩
theorem sc_law_integer : FnScope ["well", "ways"] ["well"] (defScope s_law_integer) := ⟨rfl, rfl, rfl, by decide +kernel, rfl, by decide +kernel, by decide +kernel⟩
theorem sc_law_recipe : FnScope ["well", "cells_here", "most", "pick", "part", "sign", "few"] ["well", "cells_here", "most"] (defScope s_law_recipe) := ⟨rfl, rfl, rfl, by decide +kernel, rfl, by decide +kernel, by decide +kernel⟩
theorem sc_law_signs : FnScope ["recipe", "parts", "part"] ["recipe"] (defScope s_law_signs) := ⟨rfl, rfl, rfl, by decide +kernel, rfl, by decide +kernel, by decide +kernel⟩
theorem sc_law_joined : FnScope ["sign", "one", "two"] ["sign", "one", "two"] (defScope s_law_joined) := ⟨rfl, rfl, rfl, by decide +kernel, rfl, by decide +kernel, by decide +kernel⟩
theorem sc_law_side : FnScope ["recipe", "style"] ["recipe", "style"] (defScope s_law_side) := ⟨rfl, rfl, rfl, by decide +kernel, rfl, by decide +kernel, by decide +kernel⟩
theorem sc_law_built : FnScope ["recipe", "style", "part"] ["recipe", "style"] (defScope s_law_built) := ⟨rfl, rfl, rfl, by decide +kernel, rfl, by decide +kernel, by decide +kernel⟩
theorem sc_law_leaf : FnScope ["well", "recipe", "cells_here", "ways", "other_one"] ["well", "recipe", "cells_here"] (defScope s_law_leaf) := ⟨rfl, rfl, rfl, by decide +kernel, rfl, by decide +kernel, by decide +kernel⟩
theorem sc_law_changed : FnScope ["well", "recipe", "cells_here", "at", "place", "part", "spot", "turned", "by_here", "ways", "sign"] ["well", "recipe", "cells_here"] (defScope s_law_changed) := ⟨rfl, rfl, rfl, by decide +kernel, rfl, by decide +kernel, by decide +kernel⟩
theorem sc_law_both : FnScope ["one", "two"] ["one", "two"] (defScope s_law_both) := ⟨rfl, rfl, rfl, by decide +kernel, rfl, by decide +kernel, by decide +kernel⟩
theorem sc_law_fits : FnScope ["well", "cells_here", "recipe", "changed", "one", "two", "alike", "unlike", "owed", "things", "thing"] ["well"] (defScope s_law_fits) := ⟨rfl, rfl, rfl, by decide +kernel, rfl, by decide +kernel, by decide +kernel⟩
theorem sc_law : FnScope ["script", "place", "well", "turn"] ["script"] (defScope s_law) := ⟨rfl, rfl, rfl, by decide +kernel, rfl, by decide +kernel, by decide +kernel⟩
/-- where the top has put what -/
structure Ad where
  c : Cl
  f_RunError_UinitU : Addr
  d_RunError_UinitU : FuncData
  f_is_name : Addr
  d_is_name : FuncData
  f_check_name : Addr
  d_check_name : FuncData
  f_check_divisor : Addr
  d_check_divisor : FuncData
  f_named : Addr
  d_named : FuncData
  f_now : Addr
  d_now : FuncData
  f_passed : Addr
  d_passed : FuncData
  f_number : Addr
  d_number : FuncData
  f_value_of : Addr
  d_value_of : FuncData
  f_Value_UinitU : Addr
  d_Value_UinitU : FuncData
  f_Value_UaddU : Addr
  d_Value_UaddU : FuncData
  f_Value_UraddU : Addr
  d_Value_UraddU : FuncData
  f_Value_UsubU : Addr
  d_Value_UsubU : FuncData
  f_Value_UrsubU : Addr
  d_Value_UrsubU : FuncData
  f_Value_UmulU : Addr
  d_Value_UmulU : FuncData
  f_Value_UrmulU : Addr
  d_Value_UrmulU : FuncData
  f_Value_UfloordivU : Addr
  d_Value_UfloordivU : FuncData
  f_Value_UandU : Addr
  d_Value_UandU : FuncData
  f_Value_UrandU : Addr
  d_Value_UrandU : FuncData
  f_Value_UorU : Addr
  d_Value_UorU : FuncData
  f_Value_UrorU : Addr
  d_Value_UrorU : FuncData
  f_Value_UinvertU : Addr
  d_Value_UinvertU : FuncData
  f_Value_UeqU : Addr
  d_Value_UeqU : FuncData
  f_Value_rest : Addr
  d_Value_rest : FuncData
  f_Value_same : Addr
  d_Value_same : FuncData
  f_Value_less : Addr
  d_Value_less : FuncData
  f_law_well : Addr
  d_law_well : FuncData
  f_law_take : Addr
  d_law_take : FuncData
  f_law_cells : Addr
  d_law_cells : FuncData
  f_law_integer : Addr
  d_law_integer : FuncData
  f_law_recipe : Addr
  d_law_recipe : FuncData
  f_law_signs : Addr
  d_law_signs : FuncData
  f_law_joined : Addr
  d_law_joined : FuncData
  f_law_side : Addr
  d_law_side : FuncData
  f_law_built : Addr
  d_law_built : FuncData
  f_law_leaf : Addr
  d_law_leaf : FuncData
  f_law_changed : Addr
  d_law_changed : FuncData
  f_law_both : Addr
  d_law_both : FuncData
  f_law_fits : Addr
  d_law_fits : FuncData
  f_law : Addr
  d_law : FuncData
  v_LETTERS : Value
structure Ctx (K : PySem.W.Frag) (mg : Str → Option Value) (a : Ad) : Prop where
  F_RunError_UinitU : Fun K "__init__" "RunError.__init__" s_RunError_UinitU a.f_RunError_UinitU a.d_RunError_UinitU
  e_init : PySem.W.typeIn K (.ref a.f_RunError_UinitU) = some (.type "function")
  e_b : Binds K a.d_RunError_UinitU ["self", "value"] []
  F_is_name : Fun K "is_name" "is_name" s_is_name a.f_is_name a.d_is_name
  f_is_name : At K mg "is_name" a.f_is_name a.d_is_name ["name"]
  F_check_name : Fun K "check_name" "check_name" s_check_name a.f_check_name a.d_check_name
  f_check_name : At K mg "check_name" a.f_check_name a.d_check_name ["name"]
  F_check_divisor : Fun K "check_divisor" "check_divisor" s_check_divisor a.f_check_divisor a.d_check_divisor
  f_check_divisor : At K mg "check_divisor" a.f_check_divisor a.d_check_divisor ["number"]
  F_named : Fun K "named" "named" s_named a.f_named a.d_named
  f_named : At K mg "named" a.f_named a.d_named ["name"]
  F_now : Fun K "now" "now" s_now a.f_now a.d_now
  f_now : At K mg "now" a.f_now a.d_now ["name"]
  F_passed : Fun K "passed" "passed" s_passed a.f_passed a.d_passed
  f_passed : At K mg "passed" a.f_passed a.d_passed []
  F_number : Fun K "number" "number" s_number a.f_number a.d_number
  f_number : At K mg "number" a.f_number a.d_number ["n"]
  F_value_of : Fun K "value_of" "value_of" s_value_of a.f_value_of a.d_value_of
  f_value_of : At K mg "value_of" a.f_value_of a.d_value_of ["part"]
  F_Value_UinitU : Fun K "__init__" "Value.__init__" s_Value_UinitU a.f_Value_UinitU a.d_Value_UinitU
  F_Value_UaddU : Fun K "__add__" "Value.__add__" s_Value_UaddU a.f_Value_UaddU a.d_Value_UaddU
  m_Value_UaddU : MAt K a.c.Value "__add__" a.f_Value_UaddU a.d_Value_UaddU ["self", "other"]
  F_Value_UraddU : Fun K "__radd__" "Value.__radd__" s_Value_UraddU a.f_Value_UraddU a.d_Value_UraddU
  m_Value_UraddU : MAt K a.c.Value "__radd__" a.f_Value_UraddU a.d_Value_UraddU ["self", "other"]
  F_Value_UsubU : Fun K "__sub__" "Value.__sub__" s_Value_UsubU a.f_Value_UsubU a.d_Value_UsubU
  m_Value_UsubU : MAt K a.c.Value "__sub__" a.f_Value_UsubU a.d_Value_UsubU ["self", "other"]
  F_Value_UrsubU : Fun K "__rsub__" "Value.__rsub__" s_Value_UrsubU a.f_Value_UrsubU a.d_Value_UrsubU
  m_Value_UrsubU : MAt K a.c.Value "__rsub__" a.f_Value_UrsubU a.d_Value_UrsubU ["self", "other"]
  F_Value_UmulU : Fun K "__mul__" "Value.__mul__" s_Value_UmulU a.f_Value_UmulU a.d_Value_UmulU
  m_Value_UmulU : MAt K a.c.Value "__mul__" a.f_Value_UmulU a.d_Value_UmulU ["self", "other"]
  F_Value_UrmulU : Fun K "__rmul__" "Value.__rmul__" s_Value_UrmulU a.f_Value_UrmulU a.d_Value_UrmulU
  m_Value_UrmulU : MAt K a.c.Value "__rmul__" a.f_Value_UrmulU a.d_Value_UrmulU ["self", "other"]
  F_Value_UfloordivU : Fun K "__floordiv__" "Value.__floordiv__" s_Value_UfloordivU a.f_Value_UfloordivU a.d_Value_UfloordivU
  m_Value_UfloordivU : MAt K a.c.Value "__floordiv__" a.f_Value_UfloordivU a.d_Value_UfloordivU ["self", "other"]
  F_Value_UandU : Fun K "__and__" "Value.__and__" s_Value_UandU a.f_Value_UandU a.d_Value_UandU
  m_Value_UandU : MAt K a.c.Value "__and__" a.f_Value_UandU a.d_Value_UandU ["self", "other"]
  F_Value_UrandU : Fun K "__rand__" "Value.__rand__" s_Value_UrandU a.f_Value_UrandU a.d_Value_UrandU
  m_Value_UrandU : MAt K a.c.Value "__rand__" a.f_Value_UrandU a.d_Value_UrandU ["self", "other"]
  F_Value_UorU : Fun K "__or__" "Value.__or__" s_Value_UorU a.f_Value_UorU a.d_Value_UorU
  m_Value_UorU : MAt K a.c.Value "__or__" a.f_Value_UorU a.d_Value_UorU ["self", "other"]
  F_Value_UrorU : Fun K "__ror__" "Value.__ror__" s_Value_UrorU a.f_Value_UrorU a.d_Value_UrorU
  m_Value_UrorU : MAt K a.c.Value "__ror__" a.f_Value_UrorU a.d_Value_UrorU ["self", "other"]
  F_Value_UinvertU : Fun K "__invert__" "Value.__invert__" s_Value_UinvertU a.f_Value_UinvertU a.d_Value_UinvertU
  m_Value_UinvertU : MAt K a.c.Value "__invert__" a.f_Value_UinvertU a.d_Value_UinvertU ["self"]
  F_Value_UeqU : Fun K "__eq__" "Value.__eq__" s_Value_UeqU a.f_Value_UeqU a.d_Value_UeqU
  m_Value_UeqU : MAt K a.c.Value "__eq__" a.f_Value_UeqU a.d_Value_UeqU ["self", "other"]
  F_Value_rest : Fun K "rest" "Value.rest" s_Value_rest a.f_Value_rest a.d_Value_rest
  m_Value_rest : MAt K a.c.Value "rest" a.f_Value_rest a.d_Value_rest ["self", "n"]
  F_Value_same : Fun K "same" "Value.same" s_Value_same a.f_Value_same a.d_Value_same
  m_Value_same : MAt K a.c.Value "same" a.f_Value_same a.d_Value_same ["self", "other"]
  F_Value_less : Fun K "less" "Value.less" s_Value_less a.f_Value_less a.d_Value_less
  m_Value_less : MAt K a.c.Value "less" a.f_Value_less a.d_Value_less ["self", "other"]
  F_law_well : Fun K "_law_well" "_law_well" s_law_well a.f_law_well a.d_law_well
  f_law_well : At K mg "_law_well" a.f_law_well a.d_law_well ["script", "place"]
  F_law_take : Fun K "_law_take" "_law_take" s_law_take a.f_law_take a.d_law_take
  f_law_take : At K mg "_law_take" a.f_law_take a.d_law_take ["well", "many"]
  F_law_cells : Fun K "_law_cells" "_law_cells" s_law_cells a.f_law_cells a.d_law_cells
  f_law_cells : At K mg "_law_cells" a.f_law_cells a.d_law_cells ["well", "many"]
  F_law_integer : Fun K "_law_integer" "_law_integer" s_law_integer a.f_law_integer a.d_law_integer
  f_law_integer : At K mg "_law_integer" a.f_law_integer a.d_law_integer ["well"]
  F_law_recipe : Fun K "_law_recipe" "_law_recipe" s_law_recipe a.f_law_recipe a.d_law_recipe
  f_law_recipe : At K mg "_law_recipe" a.f_law_recipe a.d_law_recipe ["well", "cells_here", "most"]
  F_law_signs : Fun K "_law_signs" "_law_signs" s_law_signs a.f_law_signs a.d_law_signs
  f_law_signs : At K mg "_law_signs" a.f_law_signs a.d_law_signs ["recipe"]
  F_law_joined : Fun K "_law_joined" "_law_joined" s_law_joined a.f_law_joined a.d_law_joined
  f_law_joined : At K mg "_law_joined" a.f_law_joined a.d_law_joined ["sign", "one", "two"]
  F_law_side : Fun K "_law_side" "_law_side" s_law_side a.f_law_side a.d_law_side
  f_law_side : At K mg "_law_side" a.f_law_side a.d_law_side ["recipe", "style"]
  F_law_built : Fun K "_law_built" "_law_built" s_law_built a.f_law_built a.d_law_built
  f_law_built : At K mg "_law_built" a.f_law_built a.d_law_built ["recipe", "style"]
  F_law_leaf : Fun K "_law_leaf" "_law_leaf" s_law_leaf a.f_law_leaf a.d_law_leaf
  f_law_leaf : At K mg "_law_leaf" a.f_law_leaf a.d_law_leaf ["well", "recipe", "cells_here"]
  F_law_changed : Fun K "_law_changed" "_law_changed" s_law_changed a.f_law_changed a.d_law_changed
  f_law_changed : At K mg "_law_changed" a.f_law_changed a.d_law_changed ["well", "recipe", "cells_here"]
  F_law_both : Fun K "_law_both" "_law_both" s_law_both a.f_law_both a.d_law_both
  f_law_both : At K mg "_law_both" a.f_law_both a.d_law_both ["one", "two"]
  F_law_fits : Fun K "_law_fits" "_law_fits" s_law_fits a.f_law_fits a.d_law_fits
  f_law_fits : At K mg "_law_fits" a.f_law_fits a.d_law_fits ["well"]
  F_law : Fun K "law" "law" s_law a.f_law a.d_law
  f_law : At K mg "law" a.f_law a.d_law ["script"]
  e_InvalidDivisor : ErrC K mg "InvalidDivisor" a.c.InvalidDivisor a.f_RunError_UinitU
  e_InvalidName : ErrC K mg "InvalidName" a.c.InvalidName a.f_RunError_UinitU
  c_Value : CAt K mg "Value" a.c.Value a.f_Value_UinitU a.d_Value_UinitU ["self", "sign", "first", "second"]
  n_Value_sign : NoAttr K a.c.Value "sign"
  n_Value_first : NoAttr K a.c.Value "first"
  n_Value_second : NoAttr K a.c.Value "second"
  o_Value_mul : OwnR K a.c.Value .Mult a.f_Value_UmulU a.f_Value_UrmulU
  o_Value_add : OwnR K a.c.Value .Add a.f_Value_UaddU a.f_Value_UraddU
  o_Value_sub : OwnR K a.c.Value .Sub a.f_Value_UsubU a.f_Value_UrsubU
  o_Value_and : OwnR K a.c.Value .BitAnd a.f_Value_UandU a.f_Value_UrandU
  o_Value_or : OwnR K a.c.Value .BitOr a.f_Value_UorU a.f_Value_UrorU
  o_Value_floordiv : OwnL K a.c.Value .FloorDiv a.f_Value_UfloordivU
  i_Value_invert : PySem.W.findIn K (.ref a.c.Value) "__invert__" = some (some (.ref a.f_Value_UinvertU))
  i_Value_invertF : PySem.W.isFn K (.ref a.f_Value_UinvertU) = true
  eq_Value : EqT K a.c.Value a.f_Value_UeqU a.d_Value_UeqU ["self", "other"]
  kn_Value : ∀ T ∈ kinds, PySem.W.subIn K (.ref a.c.Value) (.type T) = some false
  is_Value : IsC K a.c.Value []
  it_tuple : IsT K "tuple" [a.c.Value]
  k_LETTERS : mg "LETTERS" = some a.v_LETTERS
  kv_LETTERS : ∃ t, a.v_LETTERS = .str "abcdefghijklmnopqrstuvwxyz" t
  no_all : mg "all" = none
  no_len : mg "len" = none
  no_isinstance : mg "isinstance" = none
  no_int : mg "int" = none
  no_abs : mg "abs" = none
  no_range : mg "range" = none
  no_sum : mg "sum" = none
  no_tuple : mg "tuple" = none
  no_enumerate : mg "enumerate" = none
  no_repr : mg "repr" = none
  no_max : mg "max" = none
  no_min : mg "min" = none
section
variable {K : PySem.W.Frag} {mg : Str → Option Value} {a : Ad}
theorem fk_sign (T : Ctx K mg a) : ∀ C ∈ [a.c.Value], Fk K C "sign" := by
  intro C h
  simp only [List.mem_cons, List.not_mem_nil, or_false] at h
  subst h
  · exact ⟨T.c_Value.cl, T.n_Value_sign⟩
theorem fk_first (T : Ctx K mg a) : ∀ C ∈ [a.c.Value], Fk K C "first" := by
  intro C h
  simp only [List.mem_cons, List.not_mem_nil, or_false] at h
  subst h
  · exact ⟨T.c_Value.cl, T.n_Value_first⟩
theorem fk_second (T : Ctx K mg a) : ∀ C ∈ [a.c.Value], Fk K C "second" := by
  intro C h
  simp only [List.mem_cons, List.not_mem_nil, or_false] at h
  subst h
  · exact ⟨T.c_Value.cl, T.n_Value_second⟩
end
end Lk
namespace Lk
open PySem L2 DL PySem.Spec PyProof.Rows
section
variable {P : Program} {w : World} {K : PySem.W.Frag} {mg : Str → Option Value} {base : Heap} {a : Ad}
theorem ok_err (T : Ctx K mg a) : FnOk P w K mg base CX0 1 a.f_RunError_UinitU a.d_RunError_UinitU ["self", "value"] (spErr K) := T.F_RunError_UinitU.ok sc_RunError_UinitU err_len fun cdv A outer s H vs Q E hr h => ⟨_, pss_one (ps_ost (pv 0) (pv 1)), err_read h⟩
theorem ok_is_name (T : Ctx K mg a) : FnG P w K mg base (L2.CX P w) 1 a.f_is_name a.d_is_name ["name"] (liftSp (fnS (F_is_name a.c))) := by
  exact defF (n := 1) (m := 1) (b := b_is_name a.c) T.F_is_name sc_is_name rfl rfl fun cdv A outer s H E En EX hr th =>
    (ssone (sret (xand (xchain c_le c_le xint (xb b_len rfl T.no_len rfl (acons (xvar (pv 0)) anil)) xint (fun h o h' o' hc => de_chain h o h' o' xint (xb b_len rfl T.no_len rfl (acons (xvar (pv 0)) anil)) hc)) (xone (xb (b_all rfl) rfl T.no_all rfl (acons (xoo (olc [("letter", 1)] rfl sc_is_name.nd (iany (xvar (pv 0))) (by show BlkOk ["name", "letter"] (defScope s_is_name) _ [("letter", 1)]; exact ⟨rfl, by decide +kernel, by decide +kernel, by decide +kernel, by decide +kernel⟩) (tgname (i := 1) (by decide)) (fun s H C cl fp => (pg_name (i := 1) sc_is_name.nd rfl (by first | exact Or.inl rfl | exact Or.inr rfl))) (fun s H C cl fp E2 => tsnil) (fun s H C cl fp E2 => (xcmp (c_in hr.units1) (xvar (pv 1)) (xgstr rfl T.k_LETTERS T.kv_LETTERS))))) anil))))))
theorem ok_check_name (T : Ctx K mg a) : FnG P w K mg base (L2.CX P w) 3 a.f_check_name a.d_check_name ["name"] (liftSp (fnS (F_check_name a.c))) := by
  have GE : FnOk P w K mg base CX0 1 a.f_RunError_UinitU a.d_RunError_UinitU ["self", "value"] (spErr K) := ok_err T
  have G_is_name : FnG P w K mg base (L2.CX P w) 1 a.f_is_name a.d_is_name ["name"] (liftSp (fnS (F_is_name a.c))) := ok_is_name T
  exact defF (n := 1) (m := 0) (b := b_check_name a.c) T.F_check_name sc_check_name rfl rfl fun cdv A outer s H E En EX hr th =>
    (ssone (sif (tnot (tval (xcall T.f_is_name G_is_name (hr.mono (by decide)) th [false] (acons (xvar (pv 0)) anil)))) (ssone (sraise rfl th T.e_InvalidName T.e_init GE (hr.mono (by first | decide | omega)).r T.e_b (xvar (pv 0)))) ssnil))
theorem ok_check_divisor (T : Ctx K mg a) : FnG P w K mg base (L2.CX P w) 3 a.f_check_divisor a.d_check_divisor ["number"] (liftSp (fnS (F_check_divisor a.c))) := by
  have GE : FnOk P w K mg base CX0 1 a.f_RunError_UinitU a.d_RunError_UinitU ["self", "value"] (spErr K) := ok_err T
  exact defF (n := 1) (m := 0) (b := b_check_divisor a.c) T.F_check_divisor sc_check_divisor rfl rfl fun cdv A outer s H E En EX hr th =>
    (ssone (sif (tcmp c_lt (xvar (pv 0)) xint (nomark _)) (ssone (sraise rfl th T.e_InvalidDivisor T.e_init GE (hr.mono (by first | decide | omega)).r T.e_b (xvar (pv 0)))) ssnil))
theorem ok_Value_UinitU (T : Ctx K mg a) : FnG P w K mg base (L2.CX P w) 1 a.f_Value_UinitU a.d_Value_UinitU ["self", "sign", "first", "second"] (liftSp (fnS (F_Value_UinitU a.c))) := by
  exact defF (n := 4) (m := 0) (b := b_Value_UinitU a.c) T.F_Value_UinitU sc_Value_UinitU rfl rfl fun cdv A outer s H E En EX hr th =>
    (sscons (sflds (K := K) rfl (fk_sign T) (pv 0) (xvar (pv 1)))
      (sscons (sflds (K := K) rfl (fk_first T) (pv 0) (xvar (pv 2)))
      (ssone (sflds (K := K) rfl (fk_second T) (pv 0) (xvar (pv 3))))))
theorem ok_named (T : Ctx K mg a) : FnG P w K mg base (L2.CX P w) 4 a.f_named a.d_named ["name"] (liftSp (fnS (F_named a.c))) := by
  have G_check_name : FnG P w K mg base (L2.CX P w) 3 a.f_check_name a.d_check_name ["name"] (liftSp (fnS (F_check_name a.c))) := ok_check_name T
  have G_Value_UinitU : FnG P w K mg base (L2.CX P w) 1 a.f_Value_UinitU a.d_Value_UinitU ["self", "sign", "first", "second"] (liftSp (fnS (F_Value_UinitU a.c))) := ok_Value_UinitU T
  exact defF (n := 1) (m := 0) (b := b_named a.c) T.F_named sc_named rfl rfl fun cdv A outer s H E En EX hr th =>
    (sscons (sexpr (xcall T.f_check_name G_check_name (hr.mono (by decide)) th [false] (acons (xvar (pv 0)) anil)))
      (ssone (sretO (omake T.c_Value G_Value_UinitU (hr.mono (by decide)) th (acons xstr (acons (xvar (pv 0)) (acons xnon anil)))))))
theorem ok_now (T : Ctx K mg a) : FnG P w K mg base (L2.CX P w) 4 a.f_now a.d_now ["name"] (liftSp (fnS (F_now a.c))) := by
  have G_check_name : FnG P w K mg base (L2.CX P w) 3 a.f_check_name a.d_check_name ["name"] (liftSp (fnS (F_check_name a.c))) := ok_check_name T
  have G_Value_UinitU : FnG P w K mg base (L2.CX P w) 1 a.f_Value_UinitU a.d_Value_UinitU ["self", "sign", "first", "second"] (liftSp (fnS (F_Value_UinitU a.c))) := ok_Value_UinitU T
  exact defF (n := 1) (m := 0) (b := b_now a.c) T.F_now sc_now rfl rfl fun cdv A outer s H E En EX hr th =>
    (sscons (sexpr (xcall T.f_check_name G_check_name (hr.mono (by decide)) th [false] (acons (xvar (pv 0)) anil)))
      (ssone (sretO (omake T.c_Value G_Value_UinitU (hr.mono (by decide)) th (acons xstr (acons (xvar (pv 0)) (acons xnon anil)))))))
theorem ok_passed (T : Ctx K mg a) : FnG P w K mg base (L2.CX P w) 3 a.f_passed a.d_passed [] (liftSp (fnS (F_passed a.c))) := by
  have G_Value_UinitU : FnG P w K mg base (L2.CX P w) 1 a.f_Value_UinitU a.d_Value_UinitU ["self", "sign", "first", "second"] (liftSp (fnS (F_Value_UinitU a.c))) := ok_Value_UinitU T
  exact defF (n := 0) (m := 0) (b := b_passed a.c) T.F_passed sc_passed rfl rfl fun cdv A outer s H E En EX hr th =>
    (ssone (sretO (omake T.c_Value G_Value_UinitU (hr.mono (by decide)) th (acons xstr (acons xnon (acons xnon anil))))))
theorem ok_number (T : Ctx K mg a) : FnG P w K mg base (L2.CX P w) 3 a.f_number a.d_number ["n"] (liftSp (fnS (F_number a.c))) := by
  have G_Value_UinitU : FnG P w K mg base (L2.CX P w) 1 a.f_Value_UinitU a.d_Value_UinitU ["self", "sign", "first", "second"] (liftSp (fnS (F_Value_UinitU a.c))) := ok_Value_UinitU T
  exact defF (n := 1) (m := 0) (b := b_number a.c) T.F_number sc_number rfl rfl fun cdv A outer s H E En EX hr th =>
    (ssone (sretO (omake T.c_Value G_Value_UinitU (hr.mono (by decide)) th (acons xstr (acons (xvar (pv 0)) (acons xnon anil))))))
theorem ok_value_of (T : Ctx K mg a) : FnG P w K mg base (L2.CX P w) 4 a.f_value_of a.d_value_of ["part"] (liftSp (fnS (F_value_of a.c))) := by
  have G_number : FnG P w K mg base (L2.CX P w) 3 a.f_number a.d_number ["n"] (liftSp (fnS (F_number a.c))) := ok_number T
  exact defF (n := 1) (m := 0) (b := b_value_of a.c) T.F_value_of sc_value_of rfl rfl fun cdv A outer s H E En EX hr th =>
    (ssone (sret (xif (tval (xisi (K := K) rfl (pe_glob (v := V.ref a.c.Value) rfl T.c_Value.mg rfl) (ClsV.own _) (isOwn_ok T.is_Value) (xvar (pv 0)) rfl T.no_isinstance)) (xvar (pv 0)) (xcall T.f_number G_number (hr.mono (by decide)) th [false] (acons (xvar (pv 0)) anil)))))
theorem ok_Value_UaddU (T : Ctx K mg a) : FnG P w K mg base (L2.CX P w) 5 a.f_Value_UaddU a.d_Value_UaddU ["self", "other"] (liftSp (fnS (F_Value_UaddU a.c))) := by
  have G_value_of : FnG P w K mg base (L2.CX P w) 4 a.f_value_of a.d_value_of ["part"] (liftSp (fnS (F_value_of a.c))) := ok_value_of T
  have G_Value_UinitU : FnG P w K mg base (L2.CX P w) 1 a.f_Value_UinitU a.d_Value_UinitU ["self", "sign", "first", "second"] (liftSp (fnS (F_Value_UinitU a.c))) := ok_Value_UinitU T
  exact defF (n := 2) (m := 0) (b := b_Value_UaddU a.c) T.F_Value_UaddU sc_Value_UaddU rfl rfl fun cdv A outer s H E En EX hr th =>
    (ssone (sretO (omake T.c_Value G_Value_UinitU (hr.mono (by decide)) th (acons xstr (acons (xvar (pv 0)) (acons (xcall T.f_value_of G_value_of (hr.mono (by decide)) th [false] (acons (xvar (pv 1)) anil)) anil))))))
theorem ok_Value_UraddU (T : Ctx K mg a) : FnG P w K mg base (L2.CX P w) 5 a.f_Value_UraddU a.d_Value_UraddU ["self", "other"] (liftSp (fnS (F_Value_UraddU a.c))) := by
  have G_value_of : FnG P w K mg base (L2.CX P w) 4 a.f_value_of a.d_value_of ["part"] (liftSp (fnS (F_value_of a.c))) := ok_value_of T
  have G_Value_UinitU : FnG P w K mg base (L2.CX P w) 1 a.f_Value_UinitU a.d_Value_UinitU ["self", "sign", "first", "second"] (liftSp (fnS (F_Value_UinitU a.c))) := ok_Value_UinitU T
  exact defF (n := 2) (m := 0) (b := b_Value_UraddU a.c) T.F_Value_UraddU sc_Value_UraddU rfl rfl fun cdv A outer s H E En EX hr th =>
    (ssone (sretO (omake T.c_Value G_Value_UinitU (hr.mono (by decide)) th (acons xstr (acons (xcall T.f_value_of G_value_of (hr.mono (by decide)) th [false] (acons (xvar (pv 1)) anil)) (acons (xvar (pv 0)) anil))))))
theorem ok_Value_UsubU (T : Ctx K mg a) : FnG P w K mg base (L2.CX P w) 5 a.f_Value_UsubU a.d_Value_UsubU ["self", "other"] (liftSp (fnS (F_Value_UsubU a.c))) := by
  have G_value_of : FnG P w K mg base (L2.CX P w) 4 a.f_value_of a.d_value_of ["part"] (liftSp (fnS (F_value_of a.c))) := ok_value_of T
  have G_Value_UinitU : FnG P w K mg base (L2.CX P w) 1 a.f_Value_UinitU a.d_Value_UinitU ["self", "sign", "first", "second"] (liftSp (fnS (F_Value_UinitU a.c))) := ok_Value_UinitU T
  exact defF (n := 2) (m := 0) (b := b_Value_UsubU a.c) T.F_Value_UsubU sc_Value_UsubU rfl rfl fun cdv A outer s H E En EX hr th =>
    (ssone (sretO (omake T.c_Value G_Value_UinitU (hr.mono (by decide)) th (acons xstr (acons (xvar (pv 0)) (acons (xcall T.f_value_of G_value_of (hr.mono (by decide)) th [false] (acons (xvar (pv 1)) anil)) anil))))))
theorem ok_Value_UrsubU (T : Ctx K mg a) : FnG P w K mg base (L2.CX P w) 5 a.f_Value_UrsubU a.d_Value_UrsubU ["self", "other"] (liftSp (fnS (F_Value_UrsubU a.c))) := by
  have G_value_of : FnG P w K mg base (L2.CX P w) 4 a.f_value_of a.d_value_of ["part"] (liftSp (fnS (F_value_of a.c))) := ok_value_of T
  have G_Value_UinitU : FnG P w K mg base (L2.CX P w) 1 a.f_Value_UinitU a.d_Value_UinitU ["self", "sign", "first", "second"] (liftSp (fnS (F_Value_UinitU a.c))) := ok_Value_UinitU T
  exact defF (n := 2) (m := 0) (b := b_Value_UrsubU a.c) T.F_Value_UrsubU sc_Value_UrsubU rfl rfl fun cdv A outer s H E En EX hr th =>
    (ssone (sretO (omake T.c_Value G_Value_UinitU (hr.mono (by decide)) th (acons xstr (acons (xcall T.f_value_of G_value_of (hr.mono (by decide)) th [false] (acons (xvar (pv 1)) anil)) (acons (xvar (pv 0)) anil))))))
theorem ok_Value_UmulU (T : Ctx K mg a) : FnG P w K mg base (L2.CX P w) 5 a.f_Value_UmulU a.d_Value_UmulU ["self", "other"] (liftSp (fnS (F_Value_UmulU a.c))) := by
  have G_value_of : FnG P w K mg base (L2.CX P w) 4 a.f_value_of a.d_value_of ["part"] (liftSp (fnS (F_value_of a.c))) := ok_value_of T
  have G_Value_UinitU : FnG P w K mg base (L2.CX P w) 1 a.f_Value_UinitU a.d_Value_UinitU ["self", "sign", "first", "second"] (liftSp (fnS (F_Value_UinitU a.c))) := ok_Value_UinitU T
  exact defF (n := 2) (m := 0) (b := b_Value_UmulU a.c) T.F_Value_UmulU sc_Value_UmulU rfl rfl fun cdv A outer s H E En EX hr th =>
    (ssone (sretO (omake T.c_Value G_Value_UinitU (hr.mono (by decide)) th (acons xstr (acons (xvar (pv 0)) (acons (xcall T.f_value_of G_value_of (hr.mono (by decide)) th [false] (acons (xvar (pv 1)) anil)) anil))))))
theorem ok_Value_UrmulU (T : Ctx K mg a) : FnG P w K mg base (L2.CX P w) 5 a.f_Value_UrmulU a.d_Value_UrmulU ["self", "other"] (liftSp (fnS (F_Value_UrmulU a.c))) := by
  have G_value_of : FnG P w K mg base (L2.CX P w) 4 a.f_value_of a.d_value_of ["part"] (liftSp (fnS (F_value_of a.c))) := ok_value_of T
  have G_Value_UinitU : FnG P w K mg base (L2.CX P w) 1 a.f_Value_UinitU a.d_Value_UinitU ["self", "sign", "first", "second"] (liftSp (fnS (F_Value_UinitU a.c))) := ok_Value_UinitU T
  exact defF (n := 2) (m := 0) (b := b_Value_UrmulU a.c) T.F_Value_UrmulU sc_Value_UrmulU rfl rfl fun cdv A outer s H E En EX hr th =>
    (ssone (sretO (omake T.c_Value G_Value_UinitU (hr.mono (by decide)) th (acons xstr (acons (xcall T.f_value_of G_value_of (hr.mono (by decide)) th [false] (acons (xvar (pv 1)) anil)) (acons (xvar (pv 0)) anil))))))
theorem ok_Value_UfloordivU (T : Ctx K mg a) : FnG P w K mg base (L2.CX P w) 4 a.f_Value_UfloordivU a.d_Value_UfloordivU ["self", "other"] (liftSp (fnS (F_Value_UfloordivU a.c))) := by
  have G_check_divisor : FnG P w K mg base (L2.CX P w) 3 a.f_check_divisor a.d_check_divisor ["number"] (liftSp (fnS (F_check_divisor a.c))) := ok_check_divisor T
  have G_number : FnG P w K mg base (L2.CX P w) 3 a.f_number a.d_number ["n"] (liftSp (fnS (F_number a.c))) := ok_number T
  have G_Value_UinitU : FnG P w K mg base (L2.CX P w) 1 a.f_Value_UinitU a.d_Value_UinitU ["self", "sign", "first", "second"] (liftSp (fnS (F_Value_UinitU a.c))) := ok_Value_UinitU T
  exact defF (n := 2) (m := 0) (b := b_Value_UfloordivU a.c) T.F_Value_UfloordivU sc_Value_UfloordivU rfl rfl fun cdv A outer s H E En EX hr th =>
    (sscons (sexpr (xcall T.f_check_divisor G_check_divisor (hr.mono (by decide)) th [false] (acons (xvar (pv 1)) anil)))
      (ssone (sretO (omake T.c_Value G_Value_UinitU (hr.mono (by decide)) th (acons xstr (acons (xvar (pv 0)) (acons (xcall T.f_number G_number (hr.mono (by decide)) th [false] (acons (xvar (pv 1)) anil)) anil)))))))
theorem ok_Value_UandU (T : Ctx K mg a) : FnG P w K mg base (L2.CX P w) 5 a.f_Value_UandU a.d_Value_UandU ["self", "other"] (liftSp (fnS (F_Value_UandU a.c))) := by
  have G_value_of : FnG P w K mg base (L2.CX P w) 4 a.f_value_of a.d_value_of ["part"] (liftSp (fnS (F_value_of a.c))) := ok_value_of T
  have G_Value_UinitU : FnG P w K mg base (L2.CX P w) 1 a.f_Value_UinitU a.d_Value_UinitU ["self", "sign", "first", "second"] (liftSp (fnS (F_Value_UinitU a.c))) := ok_Value_UinitU T
  exact defF (n := 2) (m := 0) (b := b_Value_UandU a.c) T.F_Value_UandU sc_Value_UandU rfl rfl fun cdv A outer s H E En EX hr th =>
    (ssone (sretO (omake T.c_Value G_Value_UinitU (hr.mono (by decide)) th (acons xstr (acons (xvar (pv 0)) (acons (xcall T.f_value_of G_value_of (hr.mono (by decide)) th [false] (acons (xvar (pv 1)) anil)) anil))))))
theorem ok_Value_UrandU (T : Ctx K mg a) : FnG P w K mg base (L2.CX P w) 5 a.f_Value_UrandU a.d_Value_UrandU ["self", "other"] (liftSp (fnS (F_Value_UrandU a.c))) := by
  have G_value_of : FnG P w K mg base (L2.CX P w) 4 a.f_value_of a.d_value_of ["part"] (liftSp (fnS (F_value_of a.c))) := ok_value_of T
  have G_Value_UinitU : FnG P w K mg base (L2.CX P w) 1 a.f_Value_UinitU a.d_Value_UinitU ["self", "sign", "first", "second"] (liftSp (fnS (F_Value_UinitU a.c))) := ok_Value_UinitU T
  exact defF (n := 2) (m := 0) (b := b_Value_UrandU a.c) T.F_Value_UrandU sc_Value_UrandU rfl rfl fun cdv A outer s H E En EX hr th =>
    (ssone (sretO (omake T.c_Value G_Value_UinitU (hr.mono (by decide)) th (acons xstr (acons (xcall T.f_value_of G_value_of (hr.mono (by decide)) th [false] (acons (xvar (pv 1)) anil)) (acons (xvar (pv 0)) anil))))))
theorem ok_Value_UorU (T : Ctx K mg a) : FnG P w K mg base (L2.CX P w) 5 a.f_Value_UorU a.d_Value_UorU ["self", "other"] (liftSp (fnS (F_Value_UorU a.c))) := by
  have G_value_of : FnG P w K mg base (L2.CX P w) 4 a.f_value_of a.d_value_of ["part"] (liftSp (fnS (F_value_of a.c))) := ok_value_of T
  have G_Value_UinitU : FnG P w K mg base (L2.CX P w) 1 a.f_Value_UinitU a.d_Value_UinitU ["self", "sign", "first", "second"] (liftSp (fnS (F_Value_UinitU a.c))) := ok_Value_UinitU T
  exact defF (n := 2) (m := 0) (b := b_Value_UorU a.c) T.F_Value_UorU sc_Value_UorU rfl rfl fun cdv A outer s H E En EX hr th =>
    (ssone (sretO (omake T.c_Value G_Value_UinitU (hr.mono (by decide)) th (acons xstr (acons (xvar (pv 0)) (acons (xcall T.f_value_of G_value_of (hr.mono (by decide)) th [false] (acons (xvar (pv 1)) anil)) anil))))))
theorem ok_Value_UrorU (T : Ctx K mg a) : FnG P w K mg base (L2.CX P w) 5 a.f_Value_UrorU a.d_Value_UrorU ["self", "other"] (liftSp (fnS (F_Value_UrorU a.c))) := by
  have G_value_of : FnG P w K mg base (L2.CX P w) 4 a.f_value_of a.d_value_of ["part"] (liftSp (fnS (F_value_of a.c))) := ok_value_of T
  have G_Value_UinitU : FnG P w K mg base (L2.CX P w) 1 a.f_Value_UinitU a.d_Value_UinitU ["self", "sign", "first", "second"] (liftSp (fnS (F_Value_UinitU a.c))) := ok_Value_UinitU T
  exact defF (n := 2) (m := 0) (b := b_Value_UrorU a.c) T.F_Value_UrorU sc_Value_UrorU rfl rfl fun cdv A outer s H E En EX hr th =>
    (ssone (sretO (omake T.c_Value G_Value_UinitU (hr.mono (by decide)) th (acons xstr (acons (xcall T.f_value_of G_value_of (hr.mono (by decide)) th [false] (acons (xvar (pv 1)) anil)) (acons (xvar (pv 0)) anil))))))
theorem ok_Value_UinvertU (T : Ctx K mg a) : FnG P w K mg base (L2.CX P w) 3 a.f_Value_UinvertU a.d_Value_UinvertU ["self"] (liftSp (fnS (F_Value_UinvertU a.c))) := by
  have G_Value_UinitU : FnG P w K mg base (L2.CX P w) 1 a.f_Value_UinitU a.d_Value_UinitU ["self", "sign", "first", "second"] (liftSp (fnS (F_Value_UinitU a.c))) := ok_Value_UinitU T
  exact defF (n := 1) (m := 0) (b := b_Value_UinvertU a.c) T.F_Value_UinvertU sc_Value_UinvertU rfl rfl fun cdv A outer s H E En EX hr th =>
    (ssone (sretO (omake T.c_Value G_Value_UinitU (hr.mono (by decide)) th (acons xstr (acons (xvar (pv 0)) (acons xnon anil))))))
theorem oks_Value_UeqU (T : Ctx K mg a) : ∀ n : Nat, FnG P w K mg base CX0 (0 + 7 * n) a.f_Value_UeqU a.d_Value_UeqU ["self", "other"] (liftSp (fnN (F_Value_UeqU a.c n))) := by
  intro n
  induction n with
  | zero => exact noFN_ok
  | succ n ih =>
    have GN_Value_UeqU := ih
    · exact defN (k := 0 + 7 * n + 6) (n := 2) (m := 0) (b := b_Value_UeqU a.c (F_Value_UeqU a.c n)) T.F_Value_UeqU sc_Value_UeqU rfl rfl fun cdv A outer s H E En EX hr th =>
      (sscons (sif (tw (wor (tnot (tval (xisi (K := K) rfl (pe_glob (v := V.ref a.c.Value) rfl T.c_Value.mg rfl) (ClsV.own _) (isOwn_ok T.is_Value) (xvar (pv 1)) rfl T.no_isinstance))) (wor1 (tcmp (c_neX (eqOk_1 (eqC_mk T.eq_Value GN_Value_UeqU)) (hr.mono (by omega))) (xfld (K := K) rfl (fk_sign T) (xvar (pv 0))) (xfld (K := K) rfl (fk_sign T) (xvar (pv 1))) (nomark _))))) (ssone (sret xbl)) ssnil)
      (ssone (sret (xand (xcmp (c_eqX (eqOk_1 (eqC_mk T.eq_Value GN_Value_UeqU)) (hr.mono (by omega))) (xfld (K := K) rfl (fk_first T) (xvar (pv 0))) (xfld (K := K) rfl (fk_first T) (xvar (pv 1))) (nomark _)) (xone (xcmp (c_eqX (eqOk_1 (eqC_mk T.eq_Value GN_Value_UeqU)) (hr.mono (by omega))) (xfld (K := K) rfl (fk_second T) (xvar (pv 0))) (xfld (K := K) rfl (fk_second T) (xvar (pv 1))) (nomark _)))))))
theorem okN_Value_UeqU (T : Ctx K mg a) (n : Nat) : FnG P w K mg base CX0 (0 + 7 * n) a.f_Value_UeqU a.d_Value_UeqU ["self", "other"] (liftSp (fnN (F_Value_UeqU a.c n))) := (oks_Value_UeqU T n)
theorem ok_Value_rest (T : Ctx K mg a) : FnG P w K mg base (L2.CX P w) 4 a.f_Value_rest a.d_Value_rest ["self", "n"] (liftSp (fnS (F_Value_rest a.c))) := by
  have G_check_divisor : FnG P w K mg base (L2.CX P w) 3 a.f_check_divisor a.d_check_divisor ["number"] (liftSp (fnS (F_check_divisor a.c))) := ok_check_divisor T
  have G_number : FnG P w K mg base (L2.CX P w) 3 a.f_number a.d_number ["n"] (liftSp (fnS (F_number a.c))) := ok_number T
  have G_Value_UinitU : FnG P w K mg base (L2.CX P w) 1 a.f_Value_UinitU a.d_Value_UinitU ["self", "sign", "first", "second"] (liftSp (fnS (F_Value_UinitU a.c))) := ok_Value_UinitU T
  exact defF (n := 2) (m := 0) (b := b_Value_rest a.c) T.F_Value_rest sc_Value_rest rfl rfl fun cdv A outer s H E En EX hr th =>
    (sscons (sexpr (xcall T.f_check_divisor G_check_divisor (hr.mono (by decide)) th [false] (acons (xvar (pv 1)) anil)))
      (ssone (sretO (omake T.c_Value G_Value_UinitU (hr.mono (by decide)) th (acons xstr (acons (xvar (pv 0)) (acons (xcall T.f_number G_number (hr.mono (by decide)) th [false] (acons (xvar (pv 1)) anil)) anil)))))))
theorem ok_Value_same (T : Ctx K mg a) : FnG P w K mg base (L2.CX P w) 5 a.f_Value_same a.d_Value_same ["self", "other"] (liftSp (fnS (F_Value_same a.c))) := by
  have G_value_of : FnG P w K mg base (L2.CX P w) 4 a.f_value_of a.d_value_of ["part"] (liftSp (fnS (F_value_of a.c))) := ok_value_of T
  have G_Value_UinitU : FnG P w K mg base (L2.CX P w) 1 a.f_Value_UinitU a.d_Value_UinitU ["self", "sign", "first", "second"] (liftSp (fnS (F_Value_UinitU a.c))) := ok_Value_UinitU T
  exact defF (n := 2) (m := 0) (b := b_Value_same a.c) T.F_Value_same sc_Value_same rfl rfl fun cdv A outer s H E En EX hr th =>
    (ssone (sretO (omake T.c_Value G_Value_UinitU (hr.mono (by decide)) th (acons xstr (acons (xvar (pv 0)) (acons (xcall T.f_value_of G_value_of (hr.mono (by decide)) th [false] (acons (xvar (pv 1)) anil)) anil))))))
theorem ok_Value_less (T : Ctx K mg a) : FnG P w K mg base (L2.CX P w) 5 a.f_Value_less a.d_Value_less ["self", "other"] (liftSp (fnS (F_Value_less a.c))) := by
  have G_value_of : FnG P w K mg base (L2.CX P w) 4 a.f_value_of a.d_value_of ["part"] (liftSp (fnS (F_value_of a.c))) := ok_value_of T
  have G_Value_UinitU : FnG P w K mg base (L2.CX P w) 1 a.f_Value_UinitU a.d_Value_UinitU ["self", "sign", "first", "second"] (liftSp (fnS (F_Value_UinitU a.c))) := ok_Value_UinitU T
  exact defF (n := 2) (m := 0) (b := b_Value_less a.c) T.F_Value_less sc_Value_less rfl rfl fun cdv A outer s H E En EX hr th =>
    (ssone (sretO (omake T.c_Value G_Value_UinitU (hr.mono (by decide)) th (acons xstr (acons (xvar (pv 0)) (acons (xcall T.f_value_of G_value_of (hr.mono (by decide)) th [false] (acons (xvar (pv 1)) anil)) anil))))))
theorem ok_law_well (T : Ctx K mg a) : FnG P w K mg base (L2.CX P w) 1 a.f_law_well a.d_law_well ["script", "place"] (liftSp (fnS (F_law_well a.c))) := by
  exact defF (n := 2) (m := 2) (b := b_law_well a.c) T.F_law_well sc_law_well rfl rfl fun cdv A outer s H E En EX hr th =>
    (sscons (sset xint (gname (pg_name (i := 2) sc_law_well.nd rfl (by first | exact Or.inl rfl | exact Or.inr rfl))))
      (sscons (sif (tcmp c_lt (xvar (pv 1)) (xb b_len rfl T.no_len rfl (acons (xvar (pv 0)) anil)) (nomark _)) (ssone (sset (xitem hr.units1 (xvar (pv 0)) (xvar (pv 1))) (gname (pg_name (i := 2) sc_law_well.nd rfl (by first | exact Or.inl rfl | exact Or.inr rfl))))) ssnil)
      (sscons (sset (xbin o_mod (xty t_int rfl T.no_int rfl (acons (xbin o_add (xbin o_mul (xb b_abs rfl T.no_abs rfl (acons (xvar (pv 2)) anil)) xint) (xty t_int rfl T.no_int rfl (acons (xcmp c_lt (xvar (pv 2)) xint (nomark _)) anil))) anil)) xint) (gname (pg_name (i := 3) sc_law_well.nd rfl (by first | exact Or.inl rfl | exact Or.inr rfl))))
      (ssone (sretO (olst (acons (xbin o_mul (xvar (pv 2)) (xty t_int rfl T.no_int rfl (acons (xcmp c_ge (xvar (pv 2)) (xbin o_pow xint xint) (nomark _)) anil))) (acons (xbin o_add (xvar (pv 3)) (xbin o_mul xint (xvar (pv 1)))) (acons xint anil)))))))))
theorem ok_law_take (T : Ctx K mg a) : FnG P w K mg base (L2.CX P w) 1 a.f_law_take a.d_law_take ["well", "many"] (liftSp (fnS (F_law_take a.c))) := by
  exact defF (n := 2) (m := 2) (b := b_law_take a.c) T.F_law_take sc_law_take rfl rfl fun cdv A outer s H E En EX hr th =>
    (sscons (sif (tcmp c_gt (xitem hr.units1 (xvar (pv 0)) xint) xint (nomark _)) (sscons (sset (xbin o_mod (xty t_int rfl T.no_int rfl (acons (xitem hr.units1 (xvar (pv 0)) xint) anil)) (xvar (pv 1))) (gname (pg_name (i := 2) sc_law_take.nd rfl (by first | exact Or.inl rfl | exact Or.inr rfl))))
      (sscons (sput hr.units1 (fun a b => ds_put hr.units1 (pv 0) a b) xint (xbin o_div (xitem hr.units1 (xvar (pv 0)) xint) (xvar (pv 1))))
      (ssone (sretV (pv 2))))) ssnil)
      (sscons (sput hr.units1 (fun a b => ds_put hr.units1 (pv 0) a b) xint (xbin o_add (xitem hr.units1 (xvar (pv 0)) xint) xint))
      (sscons (sset (xbin o_add (xbin o_pow (xbin o_add (xitem hr.units1 (xvar (pv 0)) xint) (xbin o_mul xint (xitem hr.units1 (xvar (pv 0)) xint))) xint) (xbin o_mul xint (xitem hr.units1 (xvar (pv 0)) xint))) (gname (pg_name (i := 3) sc_law_take.nd rfl (by first | exact Or.inl rfl | exact Or.inr rfl))))
      (sscons (sset (xbin o_add (xbin o_mod (xty t_int rfl T.no_int rfl (acons (xvar (pv 3)) anil)) xint) (xbin o_mul xint (xitem hr.units1 (xvar (pv 0)) xint))) (gname (pg_name (i := 3) sc_law_take.nd rfl (by first | exact Or.inl rfl | exact Or.inr rfl))))
      (sscons (sset (xbin o_mod (xty t_int rfl T.no_int rfl (acons (xbin o_pow (xvar (pv 3)) xint) anil)) xint) (gname (pg_name (i := 3) sc_law_take.nd rfl (by first | exact Or.inl rfl | exact Or.inr rfl))))
      (ssone (sret (xbin o_mod (xty t_int rfl T.no_int rfl (acons (xbin o_div (xvar (pv 3)) xint) anil)) (xvar (pv 1))))))))))
theorem ok_law_cells (T : Ctx K mg a) : FnG P w K mg base (L2.CX P w) 2 a.f_law_cells a.d_law_cells ["well", "many"] (liftSp (fnS (F_law_cells a.c))) := by
  have G_law_take : FnG P w K mg base (L2.CX P w) 1 a.f_law_take a.d_law_take ["well", "many"] (liftSp (fnS (F_law_take a.c))) := ok_law_take T
  exact defF (n := 2) (m := 9) (b := b_law_cells a.c) T.F_law_cells sc_law_cells rfl rfl fun cdv A outer s H E En EX hr th =>
    (sscons (sset (xtup (acons xstr (acons (xcall T.f_law_take G_law_take (hr.mono (by decide)) th [true, false] (acons (xvar (pv 0)) (acons xint anil))) (acons (xcall T.f_law_take G_law_take (hr.mono (by decide)) th [true, false] (acons (xvar (pv 0)) (acons xint anil))) anil)))) (gtup (n := 3) rfl (gcons (gname (pg_name (i := 2) sc_law_cells.nd rfl (by first | exact Or.inl rfl | exact Or.inr rfl))) (gcons (gname (pg_name (i := 3) sc_law_cells.nd rfl (by first | exact Or.inl rfl | exact Or.inr rfl))) (gcons (gname (pg_name (i := 4) sc_law_cells.nd rfl (by first | exact Or.inl rfl | exact Or.inr rfl))) gnil)))))
      (sscons (sif (tcmp (c_eq hr.units) (xvar (pv 3)) xint (nomark _)) (ssone (sretO (olc [("k", 5)] rfl sc_law_cells.nd (irng1 rfl T.no_range (acons (xvar (pv 1)) anil)) (by show BlkOk ["well", "many", "letters", "way", "at", "k", "words", "base", "turn", "spot", "pace"] (defScope s_law_cells) _ [("k", 5)]; exact ⟨rfl, by decide +kernel, by decide +kernel, by decide +kernel, by decide +kernel⟩) (tgname (i := 5) (by decide)) (fun s H C cl fp => (pg_name (i := 5) sc_law_cells.nd rfl (by first | exact Or.inl rfl | exact Or.inr rfl))) (fun s H C cl fp E2 => tsnil) (fun s H C cl fp E2 => (xbin o_mul (xitem hr.units1 (xvar (pv 2)) (xvar (pv 4))) (xbin o_add (xvar (pv 5)) xint)))))) ssnil)
      (sscons (sif (tcmp (c_eq hr.units) (xvar (pv 3)) xint (nomark _)) (sscons (sset (xoo (olst (acons xstr (acons xstr (acons xstr (acons xstr (acons xstr (acons xstr anil)))))))) (gname (pg_name (i := 6) sc_law_cells.nd rfl (by first | exact Or.inl rfl | exact Or.inr rfl))))
      (sscons (sset (xbin o_add (xvar (pv 6)) (xoo (olst (acons xstr (acons xstr (acons xstr (acons xstr (acons xstr (acons xstr anil))))))))) (gname (pg_name (i := 6) sc_law_cells.nd rfl (by first | exact Or.inl rfl | exact Or.inr rfl))))
      (ssone (sretO (olc [("k", 5)] rfl sc_law_cells.nd (irng1 rfl T.no_range (acons (xvar (pv 1)) anil)) (by show BlkOk ["well", "many", "letters", "way", "at", "k", "words", "base", "turn", "spot", "pace"] (defScope s_law_cells) _ [("k", 5)]; exact ⟨rfl, by decide +kernel, by decide +kernel, by decide +kernel, by decide +kernel⟩) (tgname (i := 5) (by decide)) (fun s H C cl fp => (pg_name (i := 5) sc_law_cells.nd rfl (by first | exact Or.inl rfl | exact Or.inr rfl))) (fun s H C cl fp E2 => tsnil) (fun s H C cl fp E2 => (xitem hr.units1 (xvar (pv 6)) (xbin o_mod (xty t_int rfl T.no_int rfl (acons (xbin o_add (xvar (pv 4)) (xvar (pv 5))) anil)) xint)))))))) ssnil)
      (sscons (sset (xjoin xstr (xoo (olc [("turn", 8)] rfl sc_law_cells.nd (irng1 rfl T.no_range (acons (xbin o_add xint (xcall T.f_law_take G_law_take (hr.mono (by decide)) th [true, false] (acons (xvar (pv 0)) (acons xint anil)))) anil)) (by show BlkOk ["well", "many", "letters", "way", "at", "k", "words", "base", "turn", "spot", "pace"] (defScope s_law_cells) _ [("turn", 8)]; exact ⟨rfl, by decide +kernel, by decide +kernel, by decide +kernel, by decide +kernel⟩) (tgname (i := 8) (by decide)) (fun s H C cl fp => (pg_name (i := 8) sc_law_cells.nd rfl (by first | exact Or.inl rfl | exact Or.inr rfl))) (fun s H C cl fp E2 => tsnil) (fun s H C cl fp E2 => (xitem hr.units1 (xvar (pv 2)) (xcall T.f_law_take G_law_take (hr.mono (by decide)) (Th.no PassesOwn.never) [true, false] (acons (xvar (pv 0)) (acons xint anil)))))))) (gname (pg_name (i := 7) sc_law_cells.nd rfl (by first | exact Or.inl rfl | exact Or.inr rfl))))
      (sscons (sset (xtup (acons (xcall T.f_law_take G_law_take (hr.mono (by decide)) th [true, false] (acons (xvar (pv 0)) (acons (xb b_len rfl T.no_len rfl (acons (xvar (pv 7)) anil)) anil))) (acons (xitem hr.units1 (xoo (olst (acons xint (acons xint (acons xint (acons xint (acons xint anil))))))) (xcall T.f_law_take G_law_take (hr.mono (by decide)) th [true, false] (acons (xvar (pv 0)) (acons xint anil)))) anil))) (gtup (n := 2) rfl (gcons (gname (pg_name (i := 9) sc_law_cells.nd rfl (by first | exact Or.inl rfl | exact Or.inr rfl))) (gcons (gname (pg_name (i := 10) sc_law_cells.nd rfl (by first | exact Or.inl rfl | exact Or.inr rfl))) gnil))))
      (ssone (sretO (olc [("k", 5)] rfl sc_law_cells.nd (irng1 rfl T.no_range (acons (xvar (pv 1)) anil)) (by show BlkOk ["well", "many", "letters", "way", "at", "k", "words", "base", "turn", "spot", "pace"] (defScope s_law_cells) _ [("k", 5)]; exact ⟨rfl, by decide +kernel, by decide +kernel, by decide +kernel, by decide +kernel⟩) (tgname (i := 5) (by decide)) (fun s H C cl fp => (pg_name (i := 5) sc_law_cells.nd rfl (by first | exact Or.inl rfl | exact Or.inr rfl))) (fun s H C cl fp E2 => tsnil) (fun s H C cl fp E2 => (xbin o_add (xbin o_add (xsl (xvar (pv 7)) pnone (psome (xvar (pv 9)))) (xitem hr.units1 (xvar (pv 2)) (xbin o_mod (xty t_int rfl T.no_int rfl (acons (xbin o_add (xvar (pv 4)) (xbin o_mul (xvar (pv 10)) (xvar (pv 5)))) anil)) xint))) (xsl (xvar (pv 7)) (psome (xbin o_add (xvar (pv 9)) xint)) pnone)))))))))))
theorem ok_law_integer (T : Ctx K mg a) : FnG P w K mg base (L2.CX P w) 2 a.f_law_integer a.d_law_integer ["well"] (liftSp (fnS (F_law_integer a.c))) := by
  have G_law_take : FnG P w K mg base (L2.CX P w) 1 a.f_law_take a.d_law_take ["well", "many"] (liftSp (fnS (F_law_take a.c))) := ok_law_take T
  exact defF (n := 1) (m := 1) (b := b_law_integer a.c) T.F_law_integer sc_law_integer rfl rfl fun cdv A outer s H E En EX hr th =>
    (sscons (sset (xoo (olst (acons (xbin o_sub (xcall T.f_law_take G_law_take (hr.mono (by decide)) th [true, false] (acons (xvar (pv 0)) (acons xint anil))) xint) (acons (xbin o_sub (xcall T.f_law_take G_law_take (hr.mono (by decide)) th [true, false] (acons (xvar (pv 0)) (acons xint anil))) xint) (acons (xbin o_sub (xcall T.f_law_take G_law_take (hr.mono (by decide)) th [true, false] (acons (xvar (pv 0)) (acons xint anil))) xint) anil))))) (gname (pg_name (i := 1) sc_law_integer.nd rfl (by first | exact Or.inl rfl | exact Or.inr rfl))))
      (ssone (sret (xitem hr.units1 (xbin o_add (xvar (pv 1)) (xoo (olst (acons (xbin o_add (xbin o_sub (xcall T.f_law_take G_law_take (hr.mono (by decide)) th [true, false] (acons (xvar (pv 0)) (acons (xbin o_sub (xbin o_mul xint (xbin o_pow xint xint)) xint) anil))) (xbin o_pow xint xint)) xint) anil)))) (xcall T.f_law_take G_law_take (hr.mono (by decide)) th [true, false] (acons (xvar (pv 0)) (acons xint anil)))))))
theorem oks_law_recipe (T : Ctx K mg a) : ∀ n : Nat, FnG P w K mg base (L2.CX P w) (2 + n) a.f_law_recipe a.d_law_recipe ["well", "cells_here", "most"] (liftSp (fnS (F_law_recipe a.c n))) := by
  have G_law_take : FnG P w K mg base (L2.CX P w) 1 a.f_law_take a.d_law_take ["well", "many"] (liftSp (fnS (F_law_take a.c))) := ok_law_take T
  have G_law_integer : FnG P w K mg base (L2.CX P w) 2 a.f_law_integer a.d_law_integer ["well"] (liftSp (fnS (F_law_integer a.c))) := ok_law_integer T
  intro n
  induction n with
  | zero => exact noF_ok
  | succ n ih =>
    have G_law_recipe := ih
    · exact defF (k := 2 + n) (n := 3) (m := 4) (b := b_law_recipe a.c (F_law_recipe a.c n)) T.F_law_recipe sc_law_recipe rfl rfl fun cdv A outer s H E En EX hr th =>
      (sscons (sset (xif (tw (wor (tcmp (c_eq hr.units) (xvar (pv 2)) xint (nomark _)) (wor1 (tcmp (c_eq hr.units) (xcall T.f_law_take G_law_take (hr.mono (by omega)) th [true, false] (acons (xvar (pv 0)) (acons xint anil))) xint (nomark _))))) (xcall T.f_law_take G_law_take (hr.mono (by omega)) th [true, false] (acons (xvar (pv 0)) (acons xint anil))) (xbin o_add xint (xcall T.f_law_take G_law_take (hr.mono (by omega)) th [true, false] (acons (xvar (pv 0)) (acons xint anil))))) (gname (pg_name (i := 3) sc_law_recipe.nd rfl (by first | exact Or.inl rfl | exact Or.inr rfl))))
      (sscons (sif (tcmp (c_eq hr.units) (xvar (pv 3)) xint (nomark _)) (ssone (sret (xtup (acons xstr anil)))) ssnil)
      (sscons (sif (tw (wor (tcmp (c_eq hr.units) (xvar (pv 3)) xint (nomark _)) (wor1 (tw (wand (tcmp c_lt (xvar (pv 3)) xint (nomark _)) (wand1 (tcmp (c_eq hr.units) (xvar (pv 1)) (xoo (olst anil)) (nomark _)))))))) (ssone (sret (xtup (acons xstr (acons (xcall T.f_law_integer G_law_integer (hr.mono (by omega)) th [true] (acons (xvar (pv 0)) anil)) anil))))) ssnil)
      (sscons (sif (tcmp c_lt (xvar (pv 3)) xint (nomark _)) (ssone (sret (xtup (acons (xitem hr.units1 (xoo (olst (acons xstr (acons xstr (acons xstr anil))))) (xbin o_sub (xvar (pv 3)) xint)) (acons (xitem hr.units1 (xvar (pv 1)) (xcall T.f_law_take G_law_take (hr.mono (by omega)) th [true, false] (acons (xvar (pv 0)) (acons (xb b_len rfl T.no_len rfl (acons (xvar (pv 1)) anil)) anil)))) anil))))) ssnil)
      (sscons (sif (tcmp (c_eq hr.units) (xvar (pv 3)) xint (nomark _)) (ssone (sret (xtup (acons xstr (acons (xcall T.f_law_recipe G_law_recipe (hr.mono (by omega)) th [true, false, false] (acons (xvar (pv 0)) (acons (xvar (pv 1)) (acons (xbin o_sub (xvar (pv 2)) xint) anil)))) anil))))) ssnil)
      (sscons (sif (tcmp c_lt (xvar (pv 3)) xint (nomark _)) (sscons (sset (xcall T.f_law_recipe G_law_recipe (hr.mono (by omega)) th [true, false, false] (acons (xvar (pv 0)) (acons (xvar (pv 1)) (acons (xbin o_sub (xvar (pv 2)) xint) anil)))) (gname (pg_name (i := 4) sc_law_recipe.nd rfl (by first | exact Or.inl rfl | exact Or.inr rfl))))
      (ssone (sret (xtup (acons (xitem hr.units1 (xoo (olst (acons xstr (acons xstr anil)))) (xbin o_sub (xvar (pv 3)) xint)) (acons (xvar (pv 4)) (acons (xbin o_add xint (xcall T.f_law_take G_law_take (hr.mono (by omega)) th [true, false] (acons (xvar (pv 0)) (acons (xitem hr.units1 (xoo (olst (acons xint (acons xint (acons (xbin o_sub (xbin o_pow xint xint) xint) anil))))) (xcall T.f_law_take G_law_take (hr.mono (by omega)) th [true, false] (acons (xvar (pv 0)) (acons xint anil)))) anil)))) anil))))))) ssnil)
      (sscons (sset (xitem hr.units1 (xoo (olst (acons xstr (acons xstr (acons xstr (acons xstr (acons xstr (acons xstr (acons xstr (acons xstr (acons xstr anil))))))))))) (xbin o_sub (xvar (pv 3)) xint)) (gname (pg_name (i := 5) sc_law_recipe.nd rfl (by first | exact Or.inl rfl | exact Or.inr rfl))))
      (sscons (sset (xitem hr.units1 (xoo (olst (acons xint (acons (xbin o_sub (xvar (pv 2)) xint) (acons (xcall T.f_law_take G_law_take (hr.mono (by omega)) th [true, false] (acons (xvar (pv 0)) (acons (xvar (pv 2)) anil))) anil))))) (xcall T.f_law_take G_law_take (hr.mono (by omega)) th [true, false] (acons (xvar (pv 0)) (acons xint anil)))) (gname (pg_name (i := 6) sc_law_recipe.nd rfl (by first | exact Or.inl rfl | exact Or.inr rfl))))
      (sscons (sset (xcall T.f_law_recipe G_law_recipe (hr.mono (by omega)) th [true, false, false] (acons (xvar (pv 0)) (acons (xvar (pv 1)) (acons (xvar (pv 6)) anil)))) (gname (pg_name (i := 4) sc_law_recipe.nd rfl (by first | exact Or.inl rfl | exact Or.inr rfl))))
      (ssone (sret (xtup (acons (xvar (pv 5)) (acons (xvar (pv 4)) (acons (xcall T.f_law_recipe G_law_recipe (hr.mono (by omega)) th [true, false, false] (acons (xvar (pv 0)) (acons (xvar (pv 1)) (acons (xbin o_sub (xbin o_sub (xvar (pv 2)) xint) (xvar (pv 6))) anil)))) anil)))))))))))))))
theorem ok_law_recipe (T : Ctx K mg a) (n : Nat) : FnG P w K mg base (L2.CX P w) (2 + n) a.f_law_recipe a.d_law_recipe ["well", "cells_here", "most"] (liftSp (fnS (F_law_recipe a.c n))) := (oks_law_recipe T n)
theorem oks_law_signs (T : Ctx K mg a) : ∀ n : Nat, FnG P w K mg base (L2.CX P w) (0 + n) a.f_law_signs a.d_law_signs ["recipe"] (liftSp (fnS (F_law_signs a.c n))) := by
  intro n
  induction n with
  | zero => exact noF_ok
  | succ n ih =>
    have G_law_signs := ih
    · exact defF (k := 0 + n) (n := 1) (m := 2) (b := b_law_signs a.c (F_law_signs a.c n)) T.F_law_signs sc_law_signs rfl rfl fun cdv A outer s H E En EX hr th =>
      (sscons (ssetlc (i := 1) [("part", 2)] rfl sc_law_signs.nd rfl rfl (by rfl) (iany (xvar (pv 0))) (by show BlkOk ["recipe", "parts", "part"] (defScope s_law_signs) _ [("part", 2)]; exact ⟨rfl, by decide +kernel, by decide +kernel, by decide +kernel, by decide +kernel⟩) (tgname (i := 2) (by decide)) (fun s H C cl fp => (pg_name (i := 2) sc_law_signs.nd rfl (by first | exact Or.inl rfl | exact Or.inr rfl))) (fun s H C cl fp E2 => (tsone (tval (xisi (K := K) rfl (pe_bltn (v := V.ty "tuple") rfl T.no_tuple (by decide +kernel) rfl) (ClsV.ty "tuple") (isTy_ok T.it_tuple (by decide)) (xvar (pv 2)) rfl T.no_isinstance)))) (fun s H C cl fp E2 => (xcall T.f_law_signs G_law_signs (hr.mono (by omega)) (Th.no PassesOwn.never) [false] (acons (xvar (pv 2)) anil))))
      (ssone (sret (xbin o_add (xty t_int rfl T.no_int rfl (acons (xcmp (c_notin hr.units1) (xitem hr.units1 (xvar (pv 0)) xint) (xtup (acons xstr (acons xstr (acons xstr (acons xstr anil)))))) anil)) (xb (b_sum rfl) rfl T.no_sum rfl (acons (xvar (pv 1)) anil))))))
theorem ok_law_signs (T : Ctx K mg a) (n : Nat) : FnG P w K mg base (L2.CX P w) (0 + n) a.f_law_signs a.d_law_signs ["recipe"] (liftSp (fnS (F_law_signs a.c n))) := (oks_law_signs T n)
theorem ok_law_joined (T : Ctx K mg a) : FnG P w K mg base (L2.CX P w) 6 a.f_law_joined a.d_law_joined ["sign", "one", "two"] (liftSp (fnS (F_law_joined a.c))) := by
  have G_Value_UaddU : FnG P w K mg base (L2.CX P w) 5 a.f_Value_UaddU a.d_Value_UaddU ["self", "other"] (liftSp (fnS (F_Value_UaddU a.c))) := ok_Value_UaddU T
  have G_Value_UraddU : FnG P w K mg base (L2.CX P w) 5 a.f_Value_UraddU a.d_Value_UraddU ["self", "other"] (liftSp (fnS (F_Value_UraddU a.c))) := ok_Value_UraddU T
  have G_Value_UsubU : FnG P w K mg base (L2.CX P w) 5 a.f_Value_UsubU a.d_Value_UsubU ["self", "other"] (liftSp (fnS (F_Value_UsubU a.c))) := ok_Value_UsubU T
  have G_Value_UrsubU : FnG P w K mg base (L2.CX P w) 5 a.f_Value_UrsubU a.d_Value_UrsubU ["self", "other"] (liftSp (fnS (F_Value_UrsubU a.c))) := ok_Value_UrsubU T
  have G_Value_UmulU : FnG P w K mg base (L2.CX P w) 5 a.f_Value_UmulU a.d_Value_UmulU ["self", "other"] (liftSp (fnS (F_Value_UmulU a.c))) := ok_Value_UmulU T
  have G_Value_UrmulU : FnG P w K mg base (L2.CX P w) 5 a.f_Value_UrmulU a.d_Value_UrmulU ["self", "other"] (liftSp (fnS (F_Value_UrmulU a.c))) := ok_Value_UrmulU T
  have G_Value_UandU : FnG P w K mg base (L2.CX P w) 5 a.f_Value_UandU a.d_Value_UandU ["self", "other"] (liftSp (fnS (F_Value_UandU a.c))) := ok_Value_UandU T
  have G_Value_UrandU : FnG P w K mg base (L2.CX P w) 5 a.f_Value_UrandU a.d_Value_UrandU ["self", "other"] (liftSp (fnS (F_Value_UrandU a.c))) := ok_Value_UrandU T
  have G_Value_UorU : FnG P w K mg base (L2.CX P w) 5 a.f_Value_UorU a.d_Value_UorU ["self", "other"] (liftSp (fnS (F_Value_UorU a.c))) := ok_Value_UorU T
  have G_Value_UrorU : FnG P w K mg base (L2.CX P w) 5 a.f_Value_UrorU a.d_Value_UrorU ["self", "other"] (liftSp (fnS (F_Value_UrorU a.c))) := ok_Value_UrorU T
  have G_Value_same : FnG P w K mg base (L2.CX P w) 5 a.f_Value_same a.d_Value_same ["self", "other"] (liftSp (fnS (F_Value_same a.c))) := ok_Value_same T
  have G_Value_less : FnG P w K mg base (L2.CX P w) 5 a.f_Value_less a.d_Value_less ["self", "other"] (liftSp (fnS (F_Value_less a.c))) := ok_Value_less T
  exact defF (n := 3) (m := 0) (b := b_law_joined a.c) T.F_law_joined sc_law_joined rfl rfl fun cdv A outer s H E En EX hr th =>
    (sscons (sif (tcmp (c_in hr.units1) (xvar (pv 0)) (xtup (acons xstr (acons xstr anil)))) (ssone (sret (xif (tcmp (c_eq hr.units) (xvar (pv 0)) xstr (nomark _)) (xown o_add T.o_Value_add intOp_add G_Value_UaddU G_Value_UraddU (hr.mono (by decide)) (hr.mono (by decide)) T.m_Value_UaddU.b T.m_Value_UraddU.b th (xvar (pv 1)) (xvar (pv 2))) (xown o_sub T.o_Value_sub intOp_sub G_Value_UsubU G_Value_UrsubU (hr.mono (by decide)) (hr.mono (by decide)) T.m_Value_UsubU.b T.m_Value_UrsubU.b th (xvar (pv 1)) (xvar (pv 2)))))) ssnil)
      (sscons (sif (tcmp (c_eq hr.units) (xvar (pv 0)) xstr (nomark _)) (ssone (sret (xown o_mul T.o_Value_mul intOp_mul G_Value_UmulU G_Value_UrmulU (hr.mono (by decide)) (hr.mono (by decide)) T.m_Value_UmulU.b T.m_Value_UrmulU.b th (xvar (pv 1)) (xvar (pv 2))))) ssnil)
      (sscons (sif (tcmp (c_in hr.units1) (xvar (pv 0)) (xtup (acons xstr (acons xstr anil)))) (ssone (sret (xif (tcmp (c_eq hr.units) (xvar (pv 0)) xstr (nomark _)) (xown o_none T.o_Value_and intOp_and G_Value_UandU G_Value_UrandU (hr.mono (by decide)) (hr.mono (by decide)) T.m_Value_UandU.b T.m_Value_UrandU.b th (xvar (pv 1)) (xvar (pv 2))) (xown o_none T.o_Value_or intOp_or G_Value_UorU G_Value_UrorU (hr.mono (by decide)) (hr.mono (by decide)) T.m_Value_UorU.b T.m_Value_UrorU.b th (xvar (pv 1)) (xvar (pv 2)))))) ssnil)
      (ssone (sret (xif (tcmp (c_eq hr.units) (xvar (pv 0)) xstr (nomark _)) (xmeth T.m_Value_same T.c_Value.cl G_Value_same (hr.mono (by decide)) th [false, false] (xvar (pv 1)) (acons (xvar (pv 2)) anil)) (xmeth T.m_Value_less T.c_Value.cl G_Value_less (hr.mono (by decide)) th [false, false] (xvar (pv 1)) (acons (xvar (pv 2)) anil))))))))
theorem oks_law_side_law_built (T : Ctx K mg a) : ∀ n : Nat, FnG P w K mg base (L2.CX P w) (6 + n) a.f_law_side a.d_law_side ["recipe", "style"] (liftSp (fnS (F_law_side a.c n))) ∧ FnG P w K mg base (L2.CX P w) (6 + n) a.f_law_built a.d_law_built ["recipe", "style"] (liftSp (fnS (F_law_built a.c n))) := by
  have G_named : FnG P w K mg base (L2.CX P w) 4 a.f_named a.d_named ["name"] (liftSp (fnS (F_named a.c))) := ok_named T
  have G_now : FnG P w K mg base (L2.CX P w) 4 a.f_now a.d_now ["name"] (liftSp (fnS (F_now a.c))) := ok_now T
  have G_passed : FnG P w K mg base (L2.CX P w) 3 a.f_passed a.d_passed [] (liftSp (fnS (F_passed a.c))) := ok_passed T
  have G_number : FnG P w K mg base (L2.CX P w) 3 a.f_number a.d_number ["n"] (liftSp (fnS (F_number a.c))) := ok_number T
  have G_Value_UfloordivU : FnG P w K mg base (L2.CX P w) 4 a.f_Value_UfloordivU a.d_Value_UfloordivU ["self", "other"] (liftSp (fnS (F_Value_UfloordivU a.c))) := ok_Value_UfloordivU T
  have G_Value_UinvertU : FnG P w K mg base (L2.CX P w) 3 a.f_Value_UinvertU a.d_Value_UinvertU ["self"] (liftSp (fnS (F_Value_UinvertU a.c))) := ok_Value_UinvertU T
  have G_Value_rest : FnG P w K mg base (L2.CX P w) 4 a.f_Value_rest a.d_Value_rest ["self", "n"] (liftSp (fnS (F_Value_rest a.c))) := ok_Value_rest T
  have G_law_joined : FnG P w K mg base (L2.CX P w) 6 a.f_law_joined a.d_law_joined ["sign", "one", "two"] (liftSp (fnS (F_law_joined a.c))) := ok_law_joined T
  intro n
  induction n with
  | zero => exact ⟨noF_ok, noF_ok⟩
  | succ n ih =>
    obtain ⟨G_law_side, G_law_built⟩ := ih
    refine ⟨?_, ?_⟩
    · exact defF (k := 6 + n) (n := 2) (m := 0) (b := b_law_side a.c (F_law_side a.c n) (F_law_built a.c n)) T.F_law_side sc_law_side rfl rfl fun cdv A outer s H E En EX hr th =>
      (ssone (sret (xif (tw (wand (tcmp (c_eq hr.units) (xitem hr.units1 (xvar (pv 0)) xint) xstr (nomark _)) (wand1 (tcmp (c_eq hr.units) (xvar (pv 1)) xint (nomark _))))) (xitem hr.units1 (xvar (pv 0)) xint) (xcall T.f_law_built G_law_built (hr.mono (by omega)) th [false, false] (acons (xvar (pv 0)) (acons (xvar (pv 1)) anil))))))
    · exact defF (k := 6 + n) (n := 2) (m := 1) (b := b_law_built a.c (F_law_side a.c n) (F_law_built a.c n)) T.F_law_built sc_law_built rfl rfl fun cdv A outer s H E En EX hr th =>
      (sscons (sif (tcmp (c_in hr.units1) (xitem hr.units1 (xvar (pv 0)) xint) (xtup (acons xstr (acons xstr anil)))) (ssone (sret (xif (tcmp (c_eq hr.units) (xitem hr.units1 (xvar (pv 0)) xint) xstr (nomark _)) (xcall T.f_named G_named (hr.mono (by omega)) th [false] (acons (xitem hr.units1 (xvar (pv 0)) xint) anil)) (xcall T.f_now G_now (hr.mono (by omega)) th [false] (acons (xitem hr.units1 (xvar (pv 0)) xint) anil))))) ssnil)
      (sscons (sif (tcmp (c_eq hr.units) (xitem hr.units1 (xvar (pv 0)) xint) xstr (nomark _)) (ssone (sret (xcall0 T.f_passed G_passed (hr.mono (by omega)) th))) ssnil)
      (sscons (sif (tcmp (c_eq hr.units) (xitem hr.units1 (xvar (pv 0)) xint) xstr (nomark _)) (ssone (sret (xcall T.f_number G_number (hr.mono (by omega)) th [false] (acons (xitem hr.units1 (xvar (pv 0)) xint) anil)))) ssnil)
      (sscons (sif (tcmp (c_eq hr.units) (xitem hr.units1 (xvar (pv 0)) xint) xstr (nomark _)) (ssone (sret (xinv T.i_Value_invert T.i_Value_invertF G_Value_UinvertU (hr.mono (by omega)) T.m_Value_UinvertU.b th (xcall T.f_law_built G_law_built (hr.mono (by omega)) th [false, false] (acons (xitem hr.units1 (xvar (pv 0)) xint) (acons (xvar (pv 1)) anil)))))) ssnil)
      (sscons (sif (tcmp (c_in hr.units1) (xitem hr.units1 (xvar (pv 0)) xint) (xtup (acons xstr (acons xstr anil)))) (sscons (sset (xcall T.f_law_built G_law_built (hr.mono (by omega)) th [false, false] (acons (xitem hr.units1 (xvar (pv 0)) xint) (acons (xvar (pv 1)) anil))) (gname (pg_name (i := 2) sc_law_built.nd rfl (by first | exact Or.inl rfl | exact Or.inr rfl))))
      (ssone (sret (xif (tcmp (c_eq hr.units) (xitem hr.units1 (xvar (pv 0)) xint) xstr (nomark _)) (xownL o_div T.o_Value_floordiv G_Value_UfloordivU (hr.mono (by omega)) T.m_Value_UfloordivU.b th (xvar (pv 2)) (xitem hr.units1 (xvar (pv 0)) xint)) (xmeth T.m_Value_rest T.c_Value.cl G_Value_rest (hr.mono (by omega)) th [false, false] (xvar (pv 2)) (acons (xitem hr.units1 (xvar (pv 0)) xint) anil)))))) ssnil)
      (sscons (sif (tw (wor (tcmp (c_eq hr.units) (xitem hr.units1 (xitem hr.units1 (xvar (pv 0)) xint) xint) xstr (nomark _)) (wor1 (tcmp (c_in hr.units1) (xitem hr.units1 (xvar (pv 0)) xint) (xtup (acons xstr (acons xstr anil))))))) (ssone (sret (xcall T.f_law_joined G_law_joined (hr.mono (by omega)) th [false, false, false] (acons (xitem hr.units1 (xvar (pv 0)) xint) (acons (xcall T.f_law_built G_law_built (hr.mono (by omega)) th [false, false] (acons (xitem hr.units1 (xvar (pv 0)) xint) (acons (xvar (pv 1)) anil))) (acons (xcall T.f_law_side G_law_side (hr.mono (by omega)) th [false, false] (acons (xitem hr.units1 (xvar (pv 0)) xint) (acons (xvar (pv 1)) anil))) anil)))))) ssnil)
      (ssone (sret (xcall T.f_law_joined G_law_joined (hr.mono (by omega)) th [false, false, false] (acons (xitem hr.units1 (xvar (pv 0)) xint) (acons (xcall T.f_law_side G_law_side (hr.mono (by omega)) th [false, false] (acons (xitem hr.units1 (xvar (pv 0)) xint) (acons (xvar (pv 1)) anil))) (acons (xcall T.f_law_built G_law_built (hr.mono (by omega)) th [false, false] (acons (xitem hr.units1 (xvar (pv 0)) xint) (acons (xvar (pv 1)) anil))) anil))))))))))))
theorem ok_law_side (T : Ctx K mg a) (n : Nat) : FnG P w K mg base (L2.CX P w) (6 + n) a.f_law_side a.d_law_side ["recipe", "style"] (liftSp (fnS (F_law_side a.c n))) := (oks_law_side_law_built T n).1
theorem ok_law_built (T : Ctx K mg a) (n : Nat) : FnG P w K mg base (L2.CX P w) (6 + n) a.f_law_built a.d_law_built ["recipe", "style"] (liftSp (fnS (F_law_built a.c n))) := (oks_law_side_law_built T n).2
theorem ok_law_leaf (T : Ctx K mg a) : FnG P w K mg base (L2.CX P w) 2 a.f_law_leaf a.d_law_leaf ["well", "recipe", "cells_here"] (liftSp (fnS (F_law_leaf a.c))) := by
  have G_law_take : FnG P w K mg base (L2.CX P w) 1 a.f_law_take a.d_law_take ["well", "many"] (liftSp (fnS (F_law_take a.c))) := ok_law_take T
  exact defF (n := 3) (m := 2) (b := b_law_leaf a.c) T.F_law_leaf sc_law_leaf rfl rfl fun cdv A outer s H E En EX hr th =>
    (sscons (sif (tcmp (c_eq hr.units) (xitem hr.units1 (xvar (pv 1)) xint) xstr (nomark _)) (sscons (sset (xoo (olst (acons (xif (tcmp c_lt (xitem hr.units1 (xvar (pv 1)) xint) (xbin o_sub (xbin o_pow xint xint) xint) (nomark _)) (xbin o_add (xitem hr.units1 (xvar (pv 1)) xint) xint) xint) (acons (xneg (xitem hr.units1 (xvar (pv 1)) xint)) (acons (xbin o_div (xitem hr.units1 (xvar (pv 1)) xint) xint) anil))))) (gname (pg_name (i := 3) sc_law_leaf.nd rfl (by first | exact Or.inl rfl | exact Or.inr rfl))))
      (ssone (sret (xitem hr.units1 (xoo (olst (acons (xtup (acons xstr (acons (xitem hr.units1 (xvar (pv 3)) (xcall T.f_law_take G_law_take (hr.mono (by decide)) th [true, false] (acons (xvar (pv 0)) (acons xint anil)))) anil))) (acons (xtup (acons xstr anil)) anil)))) (xty t_int rfl T.no_int rfl (acons (xcmp (c_eq hr.units) (xcall T.f_law_take G_law_take (hr.mono (by decide)) th [true, false] (acons (xvar (pv 0)) (acons xint anil))) xint (nomark _)) anil)))))) ssnil)
      (sscons (sif (tcmp (c_eq hr.units) (xitem hr.units1 (xvar (pv 1)) xint) xstr (nomark _)) (ssone (sret (xitem hr.units1 (xoo (olst (acons (xtup (acons xstr (acons xint anil))) (acons (xtup (acons xstr (acons (xitem hr.units1 (xvar (pv 2)) xint) anil))) (acons (xtup (acons xstr (acons (xitem hr.units1 (xvar (pv 2)) xint) anil))) anil))))) (xcall T.f_law_take G_law_take (hr.mono (by decide)) th [true, false] (acons (xvar (pv 0)) (acons xint anil)))))) ssnil)
      (sscons (sset (xitem hr.units1 (xvar (pv 2)) (xcall T.f_law_take G_law_take (hr.mono (by decide)) th [true, false] (acons (xvar (pv 0)) (acons (xb b_len rfl T.no_len rfl (acons (xvar (pv 2)) anil)) anil)))) (gname (pg_name (i := 4) sc_law_leaf.nd rfl (by first | exact Or.inl rfl | exact Or.inr rfl))))
      (sscons (sset (xoo (olst (acons (xtup (acons (xitem hr.units1 (xvar (pv 1)) xint) (acons (xvar (pv 4)) anil))) (acons (xtup (acons xstr (acons (xitem hr.units1 (xvar (pv 1)) xint) anil))) (acons (xtup (acons xstr (acons (xitem hr.units1 (xvar (pv 1)) xint) anil))) anil))))) (gname (pg_name (i := 3) sc_law_leaf.nd rfl (by first | exact Or.inl rfl | exact Or.inr rfl))))
      (ssone (sret (xitem hr.units1 (xbin o_add (xvar (pv 3)) (xoo (olst (acons (xtup (acons xstr anil)) (acons (xtup (acons xstr (acons xint anil))) anil))))) (xcall T.f_law_take G_law_take (hr.mono (by decide)) th [true, false] (acons (xvar (pv 0)) (acons xint anil))))))))))
theorem oks_law_changed (T : Ctx K mg a) : ∀ n : Nat, FnG P w K mg base (L2.CX P w) (16 + n) a.f_law_changed a.d_law_changed ["well", "recipe", "cells_here"] (liftSp (fnS (F_law_changed a.c n))) := by
  have G_law_take : FnG P w K mg base (L2.CX P w) 1 a.f_law_take a.d_law_take ["well", "many"] (liftSp (fnS (F_law_take a.c))) := ok_law_take T
  have G_law_signs : FnG P w K mg base (L2.CX P w) 16 a.f_law_signs a.d_law_signs ["recipe"] (liftSp (fnS (F_law_signs a.c 16))) := ok_law_signs T 16
  have G_law_leaf : FnG P w K mg base (L2.CX P w) 2 a.f_law_leaf a.d_law_leaf ["well", "recipe", "cells_here"] (liftSp (fnS (F_law_leaf a.c))) := ok_law_leaf T
  intro n
  induction n with
  | zero => exact noF_ok
  | succ n ih =>
    have G_law_changed := ih
    · exact defF (k := 16 + n) (n := 3) (m := 8) (b := b_law_changed a.c (F_law_changed a.c n)) T.F_law_changed sc_law_changed rfl rfl fun cdv A outer s H E En EX hr th =>
      (sscons (sif (tcmp (c_eq hr.units) (xcall T.f_law_signs G_law_signs (hr.mono (by omega)) th [false] (acons (xvar (pv 1)) anil)) xint (nomark _)) (ssone (sret (xcall T.f_law_leaf G_law_leaf (hr.mono (by omega)) th [true, false, false] (acons (xvar (pv 0)) (acons (xvar (pv 1)) (acons (xvar (pv 2)) anil)))))) ssnil)
      (sscons (ssetlc (i := 3) [("place", 4), ("part", 5)] rfl sc_law_changed.nd rfl rfl (by rfl) (ienumT (fun h => di_enumT rfl T.no_enumerate h) (acons (xvar (pv 1)) anil)) (by show BlkOk ["well", "recipe", "cells_here", "at", "place", "part", "spot", "turned", "by_here", "ways", "sign"] (defScope s_law_changed) _ [("place", 4), ("part", 5)]; exact ⟨rfl, by decide +kernel, by decide +kernel, by decide +kernel, by decide +kernel⟩) (tgtup (tgcons (tgname (i := 4) (by decide)) (tgcons (tgname (i := 5) (by decide)) tgnil))) (fun s H C cl fp => (pg_tup rfl (pgs_cons (pg_name (i := 4) sc_law_changed.nd rfl (by first | exact Or.inl rfl | exact Or.inr rfl)) (pgs_cons (pg_name (i := 5) sc_law_changed.nd rfl (by first | exact Or.inl rfl | exact Or.inr rfl)) pgs_nil)))) (fun s H C cl fp E2 => (tsone (tval (xisi (K := K) rfl (pe_bltn (v := V.ty "tuple") rfl T.no_tuple (by decide +kernel) rfl) (ClsV.ty "tuple") (isTy_ok T.it_tuple (by decide)) (xvar (pv 5)) rfl T.no_isinstance)))) (fun s H C cl fp E2 => (xvar (pv 4))))
      (sscons (sif (tcmp c_gt (xcall T.f_law_take G_law_take (hr.mono (by omega)) th [true, false] (acons (xvar (pv 0)) (acons xint anil))) xint (nomark _)) (sscons (sset (xitem hr.units1 (xvar (pv 3)) (xcall T.f_law_take G_law_take (hr.mono (by omega)) th [true, false] (acons (xvar (pv 0)) (acons (xb b_len rfl T.no_len rfl (acons (xvar (pv 3)) anil)) anil)))) (gname (pg_name (i := 6) sc_law_changed.nd rfl (by first | exact Or.inl rfl | exact Or.inr rfl))))
      (sscons (sset (xcall T.f_law_changed G_law_changed (hr.mono (by omega)) th [true, false, false] (acons (xvar (pv 0)) (acons (xitem hr.units1 (xvar (pv 1)) (xvar (pv 6))) (acons (xvar (pv 2)) anil)))) (gname (pg_name (i := 5) sc_law_changed.nd rfl (by first | exact Or.inl rfl | exact Or.inr rfl))))
      (ssone (sret (xbin o_add (xbin o_add (xsl (xvar (pv 1)) pnone (psome (xvar (pv 6)))) (xtup (acons (xvar (pv 5)) anil))) (xsl (xvar (pv 1)) (psome (xbin o_add (xvar (pv 6)) xint)) pnone)))))) ssnil)
      (sscons (sif (tcmp (c_eq hr.units) (xitem hr.units1 (xvar (pv 1)) xint) xstr (nomark _)) (ssone (sret (xitem hr.units1 (xoo (olst (acons (xitem hr.units1 (xvar (pv 1)) xint) (acons (xtup (acons xstr (acons (xvar (pv 1)) anil))) anil)))) (xcall T.f_law_take G_law_take (hr.mono (by omega)) th [true, false] (acons (xvar (pv 0)) (acons xint anil)))))) ssnil)
      (sscons (sif (tcmp (c_in hr.units1) (xitem hr.units1 (xvar (pv 1)) xint) (xtup (acons xstr (acons xstr anil)))) (sscons (sset (xif (tcmp (c_eq hr.units) (xitem hr.units1 (xvar (pv 1)) xint) xstr (nomark _)) xstr xstr) (gname (pg_name (i := 7) sc_law_changed.nd rfl (by first | exact Or.inl rfl | exact Or.inr rfl))))
      (sscons (sset (xif (tcmp c_lt (xitem hr.units1 (xvar (pv 1)) xint) (xbin o_sub (xbin o_pow xint xint) xint) (nomark _)) (xbin o_add (xitem hr.units1 (xvar (pv 1)) xint) xint) xint) (gname (pg_name (i := 8) sc_law_changed.nd rfl (by first | exact Or.inl rfl | exact Or.inr rfl))))
      (sscons (sseto (i := 9) (fun h => ps_set (i := 9) sc_law_changed.nd rfl (by first | exact Or.inl rfl | exact Or.inr rfl) h) (olst (acons (xtup (acons (xvar (pv 7)) (acons (xitem hr.units1 (xvar (pv 1)) xint) (acons (xitem hr.units1 (xvar (pv 1)) xint) anil)))) (acons (xitem hr.units1 (xvar (pv 1)) xint) anil))))
      (sscons (sapp (pv 9) (xtup (acons (xitem hr.units1 (xvar (pv 1)) xint) (acons (xitem hr.units1 (xvar (pv 1)) xint) (acons (xvar (pv 8)) anil)))) (pe_bm PySem.F.plainAttrs_list PySem.F.slot_list_append PySem.F.type_list_append mt_append (pv 9) (pa_cons (xtup (acons (xitem hr.units1 (xvar (pv 1)) xint) (acons (xitem hr.units1 (xvar (pv 1)) xint) (acons (xvar (pv 8)) anil)))) pa_nil)) (fun a b c => ds_app a b c))
      (ssone (sret (xitem hr.units1 (xvar (pv 9)) (xcall T.f_law_take G_law_take (hr.mono (by omega)) th [true, false] (acons (xvar (pv 0)) (acons xint anil)))))))))) ssnil)
      (sscons (sset (xitem hr.units1 (xoo (olst (acons xstr (acons xstr (acons xstr (acons xstr (acons xstr (acons xstr (acons xstr anil))))))))) (xcall T.f_law_take G_law_take (hr.mono (by omega)) th [true, false] (acons (xvar (pv 0)) (acons xint anil)))) (gname (pg_name (i := 10) sc_law_changed.nd rfl (by first | exact Or.inl rfl | exact Or.inr rfl))))
      (sscons (sseto (i := 9) (fun h => ps_set (i := 9) sc_law_changed.nd rfl (by first | exact Or.inl rfl | exact Or.inr rfl) h) (olst (acons (xtup (acons (xitem hr.units1 (xvar (pv 1)) xint) (acons (xitem hr.units1 (xvar (pv 1)) xint) (acons (xitem hr.units1 (xvar (pv 1)) xint) anil)))) anil)))
      (sscons (sapp (pv 9) (xtup (acons (xvar (pv 10)) (acons (xitem hr.units1 (xvar (pv 1)) xint) (acons (xitem hr.units1 (xvar (pv 1)) xint) anil)))) (pe_bm PySem.F.plainAttrs_list PySem.F.slot_list_append PySem.F.type_list_append mt_append (pv 9) (pa_cons (xtup (acons (xvar (pv 10)) (acons (xitem hr.units1 (xvar (pv 1)) xint) (acons (xitem hr.units1 (xvar (pv 1)) xint) anil)))) pa_nil)) (fun a b c => ds_app a b c))
      (ssone (sret (xitem hr.units1 (xbin o_add (xvar (pv 9)) (xoo (olst (acons (xitem hr.units1 (xvar (pv 1)) xint) (acons (xitem hr.units1 (xvar (pv 1)) xint) (acons (xtup (acons xstr (acons (xvar (pv 1)) anil))) anil)))))) (xcall T.f_law_take G_law_take (hr.mono (by omega)) th [true, false] (acons (xvar (pv 0)) (acons xint anil))))))))))))))
theorem ok_law_changed (T : Ctx K mg a) (n : Nat) : FnG P w K mg base (L2.CX P w) (16 + n) a.f_law_changed a.d_law_changed ["well", "recipe", "cells_here"] (liftSp (fnS (F_law_changed a.c n))) := (oks_law_changed T n)
theorem ok_law_both (T : Ctx K mg a) : FnG P w K mg base (L2.CX P w) 119 a.f_law_both a.d_law_both ["one", "two"] (liftSp (fnS (F_law_both a.c))) := by
  have GN_Value_UeqU : FnG P w K mg base CX0 112 a.f_Value_UeqU a.d_Value_UeqU ["self", "other"] (liftSp (fnN (F_Value_UeqU a.c 16))) := okN_Value_UeqU T 16
  exact defF (n := 2) (m := 0) (b := b_law_both a.c) T.F_law_both sc_law_both rfl rfl fun cdv A outer s H E En EX hr th =>
    (ssone (sret (xb (b_repr hr) rfl T.no_repr rfl (acons (xoo (olst (acons (xcmp (c_eqR (eqOk_1 (eqC_mk T.eq_Value GN_Value_UeqU)) (eqNk_1 T.kn_Value) (hr.mono (by decide))) (xvar (pv 0)) (xvar (pv 1)) (nomark _)) (acons (xcmp (c_eqR (eqOk_1 (eqC_mk T.eq_Value GN_Value_UeqU)) (eqNk_1 T.kn_Value) (hr.mono (by decide))) (xvar (pv 1)) (xvar (pv 0)) (nomark _)) (acons (xcmp (c_neR (eqOk_1 (eqC_mk T.eq_Value GN_Value_UeqU)) (eqNk_1 T.kn_Value) (hr.mono (by decide))) (xvar (pv 0)) (xvar (pv 1)) (nomark _)) (acons (xcmp (c_neR (eqOk_1 (eqC_mk T.eq_Value GN_Value_UeqU)) (eqNk_1 T.kn_Value) (hr.mono (by decide))) (xvar (pv 1)) (xvar (pv 0)) (nomark _)) anil)))))) anil))))
theorem ok_law_fits (T : Ctx K mg a) : FnG P w K mg base (L2.CX P w) 120 a.f_law_fits a.d_law_fits ["well"] (liftSp (fnS (F_law_fits a.c))) := by
  have G_Value_UinvertU : FnG P w K mg base (L2.CX P w) 3 a.f_Value_UinvertU a.d_Value_UinvertU ["self"] (liftSp (fnS (F_Value_UinvertU a.c))) := ok_Value_UinvertU T
  have G_Value_rest : FnG P w K mg base (L2.CX P w) 4 a.f_Value_rest a.d_Value_rest ["self", "n"] (liftSp (fnS (F_Value_rest a.c))) := ok_Value_rest T
  have G_law_take : FnG P w K mg base (L2.CX P w) 1 a.f_law_take a.d_law_take ["well", "many"] (liftSp (fnS (F_law_take a.c))) := ok_law_take T
  have G_law_cells : FnG P w K mg base (L2.CX P w) 2 a.f_law_cells a.d_law_cells ["well", "many"] (liftSp (fnS (F_law_cells a.c))) := ok_law_cells T
  have G_law_recipe : FnG P w K mg base (L2.CX P w) 18 a.f_law_recipe a.d_law_recipe ["well", "cells_here", "most"] (liftSp (fnS (F_law_recipe a.c 16))) := ok_law_recipe T 16
  have G_law_signs : FnG P w K mg base (L2.CX P w) 16 a.f_law_signs a.d_law_signs ["recipe"] (liftSp (fnS (F_law_signs a.c 16))) := ok_law_signs T 16
  have G_law_built : FnG P w K mg base (L2.CX P w) 36 a.f_law_built a.d_law_built ["recipe", "style"] (liftSp (fnS (F_law_built a.c 30))) := ok_law_built T 30
  have G_law_changed : FnG P w K mg base (L2.CX P w) 32 a.f_law_changed a.d_law_changed ["well", "recipe", "cells_here"] (liftSp (fnS (F_law_changed a.c 16))) := ok_law_changed T 16
  have G_law_both : FnG P w K mg base (L2.CX P w) 119 a.f_law_both a.d_law_both ["one", "two"] (liftSp (fnS (F_law_both a.c))) := ok_law_both T
  exact defF (n := 1) (m := 10) (b := b_law_fits a.c) T.F_law_fits sc_law_fits rfl rfl fun cdv A outer s H E En EX hr th =>
    (sscons (sset (xcall T.f_law_cells G_law_cells (hr.mono (by decide)) th [true, false] (acons (xvar (pv 0)) (acons (xbin o_add xint (xcall T.f_law_take G_law_take (hr.mono (by decide)) th [true, false] (acons (xvar (pv 0)) (acons xint anil)))) anil))) (gname (pg_name (i := 1) sc_law_fits.nd rfl (by first | exact Or.inl rfl | exact Or.inr rfl))))
      (sscons (sset (xcall T.f_law_recipe G_law_recipe (hr.mono (by decide)) th [true, false, false] (acons (xvar (pv 0)) (acons (xvar (pv 1)) (acons (xcall T.f_law_take G_law_take (hr.mono (by decide)) th [true, false] (acons (xvar (pv 0)) (acons (xitem hr.units1 (xoo (olst (acons xint (acons xint anil)))) (xcall T.f_law_take G_law_take (hr.mono (by decide)) th [true, false] (acons (xvar (pv 0)) (acons xint anil)))) anil))) anil)))) (gname (pg_name (i := 2) sc_law_fits.nd rfl (by first | exact Or.inl rfl | exact Or.inr rfl))))
      (sscons (sset (xcall T.f_law_changed G_law_changed (hr.mono (by decide)) th [true, false, false] (acons (xvar (pv 0)) (acons (xvar (pv 2)) (acons (xvar (pv 1)) anil)))) (gname (pg_name (i := 3) sc_law_fits.nd rfl (by first | exact Or.inl rfl | exact Or.inr rfl))))
      (sscons (sif (tcmp c_gt (xcall T.f_law_signs G_law_signs (hr.mono (by decide)) th [false] (acons (xvar (pv 3)) anil)) xint (nomark _)) (ssone (sset (xvar (pv 2)) (gname (pg_name (i := 3) sc_law_fits.nd rfl (by first | exact Or.inl rfl | exact Or.inr rfl))))) ssnil)
      (sscons (sset (xcall T.f_law_built G_law_built (hr.mono (by decide)) th [false, false] (acons (xvar (pv 2)) (acons (xcall T.f_law_take G_law_take (hr.mono (by decide)) th [true, false] (acons (xvar (pv 0)) (acons xint anil))) anil))) (gname (pg_name (i := 4) sc_law_fits.nd rfl (by first | exact Or.inl rfl | exact Or.inr rfl))))
      (sscons (sset (xcall T.f_law_built G_law_built (hr.mono (by decide)) th [false, false] (acons (xvar (pv 3)) (acons (xcall T.f_law_take G_law_take (hr.mono (by decide)) th [true, false] (acons (xvar (pv 0)) (acons xint anil))) anil))) (gname (pg_name (i := 5) sc_law_fits.nd rfl (by first | exact Or.inl rfl | exact Or.inr rfl))))
      (sscons (sset (xtup (acons (xb (b_repr hr) rfl T.no_repr rfl (acons (xoo (olst (acons xbl (acons xbl (acons xbl (acons xbl anil)))))) anil)) (acons (xb (b_repr hr) rfl T.no_repr rfl (acons (xoo (olst (acons xbl (acons xbl (acons xbl (acons xbl anil)))))) anil)) anil))) (gtup (n := 2) rfl (gcons (gname (pg_name (i := 6) sc_law_fits.nd rfl (by first | exact Or.inl rfl | exact Or.inr rfl))) (gcons (gname (pg_name (i := 7) sc_law_fits.nd rfl (by first | exact Or.inl rfl | exact Or.inr rfl))) gnil))))
      (sscons (sset (xif (tcmp (c_eq hr.units) (xvar (pv 2)) (xvar (pv 3)) (nomark _)) (xvar (pv 6)) (xvar (pv 7))) (gname (pg_name (i := 8) sc_law_fits.nd rfl (by first | exact Or.inl rfl | exact Or.inr rfl))))
      (sscons (sif (tw (wor (tcmp (c_ne hr.units) (xcall T.f_law_both G_law_both (hr.mono (by decide)) th [false, false] (acons (xvar (pv 4)) (acons (xvar (pv 5)) anil))) (xvar (pv 8)) (nomark _)) (wor1 (tcmp (c_ne hr.units) (xcall T.f_law_both G_law_both (hr.mono (by decide)) th [false, false] (acons (xvar (pv 4)) (acons (xcall T.f_law_built G_law_built (hr.mono (by decide)) th [false, false] (acons (xvar (pv 2)) (acons xint anil))) anil))) (xvar (pv 6)) (nomark _))))) (ssone (sret xbl)) ssnil)
      (sscons (sif (tw (wor (tcmp (c_ne hr.units) (xcall T.f_law_both G_law_both (hr.mono (by decide)) th [false, false] (acons (xinv T.i_Value_invert T.i_Value_invertF G_Value_UinvertU (hr.mono (by decide)) T.m_Value_UinvertU.b th (xvar (pv 4))) (acons (xinv T.i_Value_invert T.i_Value_invertF G_Value_UinvertU (hr.mono (by decide)) T.m_Value_UinvertU.b th (xvar (pv 5))) anil))) (xvar (pv 8)) (nomark _)) (wor1 (tcmp (c_ne hr.units) (xcall T.f_law_both G_law_both (hr.mono (by decide)) th [false, false] (acons (xmeth T.m_Value_rest T.c_Value.cl G_Value_rest (hr.mono (by decide)) th [false, false] (xvar (pv 4)) (acons xint anil)) (acons (xmeth T.m_Value_rest T.c_Value.cl G_Value_rest (hr.mono (by decide)) th [false, false] (xvar (pv 5)) (acons xint anil)) anil))) (xvar (pv 8)) (nomark _))))) (ssone (sret xbl)) ssnil)
      (sscons (sset (xoo (olst (acons xnon (acons xint (acons xint (acons xstr (acons (xitem hr.units1 (xvar (pv 1)) xint) (acons (xoo (olst (acons (xvar (pv 4)) anil))) (acons (xtup (acons (xvar (pv 4)) (acons (xvar (pv 5)) anil))) (acons (xvar (pv 1)) (acons (xoo odict0) (acons (xvar (pv 2)) anil)))))))))))) (gname (pg_name (i := 9) sc_law_fits.nd rfl (by first | exact Or.inl rfl | exact Or.inr rfl))))
      (ssone (sret (xcmp (c_eq hr.units) (xoo (olc [("thing", 10)] rfl sc_law_fits.nd (iany (xvar (pv 9))) (by show BlkOk ["well", "cells_here", "recipe", "changed", "one", "two", "alike", "unlike", "owed", "things", "thing"] (defScope s_law_fits) _ [("thing", 10)]; exact ⟨rfl, by decide +kernel, by decide +kernel, by decide +kernel, by decide +kernel⟩) (tgname (i := 10) (by decide)) (fun s H C cl fp => (pg_name (i := 10) sc_law_fits.nd rfl (by first | exact Or.inl rfl | exact Or.inr rfl))) (fun s H C cl fp E2 => (tsone (tcmp (c_ne hr.units) (xcall T.f_law_both G_law_both (hr.mono (by decide)) (Th.no PassesOwn.never) [false, false] (acons (xvar (pv 4)) (acons (xvar (pv 10)) anil))) (xvar (pv 7)) (nomark _)))) (fun s H C cl fp E2 => xint))) (xoo (olst anil)) (nomark _)))))))))))))))
theorem ok_law (T : Ctx K mg a) : FnG P w K mg base (L2.CX P w) 121 a.f_law a.d_law ["script"] (liftSp (fnS (F_law a.c))) := by
  have G_law_well : FnG P w K mg base (L2.CX P w) 1 a.f_law_well a.d_law_well ["script", "place"] (liftSp (fnS (F_law_well a.c))) := ok_law_well T
  have G_law_fits : FnG P w K mg base (L2.CX P w) 120 a.f_law_fits a.d_law_fits ["well"] (liftSp (fnS (F_law_fits a.c))) := ok_law_fits T
  exact defF (n := 1) (m := 3) (b := b_law a.c) T.F_law sc_law rfl rfl fun cdv A outer s H E En EX hr th =>
    (sscons (sfor th rfl (irng1 rfl T.no_range (acons (xb (b_max2 rfl) rfl T.no_max rfl (acons xint (acons (xb (b_min2 rfl) rfl T.no_min rfl (acons xint (acons (xb b_len rfl T.no_len rfl (acons (xvar (pv 0)) anil)) anil))) anil))) anil)) (gname (pg_name (i := 1) sc_law.nd rfl (by first | exact Or.inl rfl | exact Or.inr rfl)))
        (sscons (sseto (i := 2) (fun h => ps_set (i := 2) sc_law.nd rfl (by first | exact Or.inl rfl | exact Or.inr rfl) h) (ocall T.f_law_well G_law_well (hr.mono (by decide)) th [false, false] (acons (xvar (pv 0)) (acons (xvar (pv 1)) anil))))
      (ssone (sfor th rfl (irng1 rfl T.no_range (acons xint anil)) (gname (pg_name (i := 3) sc_law.nd rfl (by first | exact Or.inl rfl | exact Or.inr rfl)))
        (ssone (sif (tnot (tval (xcall T.f_law_fits G_law_fits (hr.mono (by decide)) th [true] (acons (xvar (pv 2)) anil)))) (ssone (sret xbl)) ssnil))))))
      (ssone (sret xbl)))
end
end Lk
namespace Lk
open PySem L2 DL
theorem mk {K : PySem.W.Frag} {h : Heap} {mg : Str → Option Value} (X : K.In h) (G : h.Ns mainGlobals mg) {C_Value C_RunError C_InvalidName C_UnknownName C_InvalidDivisor f_RunError_UinitU f_is_name f_check_name f_check_divisor f_named f_now f_passed f_number f_value_of f_Value_UinitU f_Value_UaddU f_Value_UraddU f_Value_UsubU f_Value_UrsubU f_Value_UmulU f_Value_UrmulU f_Value_UfloordivU f_Value_UandU f_Value_UrandU f_Value_UorU f_Value_UrorU f_Value_UinvertU f_Value_UeqU f_Value_rest f_Value_same f_Value_less f_law_well f_law_take f_law_cells f_law_integer f_law_recipe f_law_signs f_law_joined f_law_side f_law_built f_law_leaf f_law_changed f_law_both f_law_fits f_law N_InvalidDivisor N_InvalidName : Addr} {oc_RunError_UinitU kV_RunError_UinitU dc_RunError_UinitU pm_RunError_UinitU cd_RunError_UinitU ct_RunError_UinitU oc_is_name kV_is_name dc_is_name pm_is_name cd_is_name ct_is_name oc_check_name kV_check_name dc_check_name pm_check_name cd_check_name ct_check_name oc_check_divisor kV_check_divisor dc_check_divisor pm_check_divisor cd_check_divisor ct_check_divisor oc_named kV_named dc_named pm_named cd_named ct_named oc_now kV_now dc_now pm_now cd_now ct_now oc_passed kV_passed dc_passed pm_passed cd_passed ct_passed oc_number kV_number dc_number pm_number cd_number ct_number oc_value_of kV_value_of dc_value_of pm_value_of cd_value_of ct_value_of oc_Value_UinitU kV_Value_UinitU dc_Value_UinitU pm_Value_UinitU cd_Value_UinitU ct_Value_UinitU oc_Value_UaddU kV_Value_UaddU dc_Value_UaddU pm_Value_UaddU cd_Value_UaddU ct_Value_UaddU oc_Value_UraddU kV_Value_UraddU dc_Value_UraddU pm_Value_UraddU cd_Value_UraddU ct_Value_UraddU oc_Value_UsubU kV_Value_UsubU dc_Value_UsubU pm_Value_UsubU cd_Value_UsubU ct_Value_UsubU oc_Value_UrsubU kV_Value_UrsubU dc_Value_UrsubU pm_Value_UrsubU cd_Value_UrsubU ct_Value_UrsubU oc_Value_UmulU kV_Value_UmulU dc_Value_UmulU pm_Value_UmulU cd_Value_UmulU ct_Value_UmulU oc_Value_UrmulU kV_Value_UrmulU dc_Value_UrmulU pm_Value_UrmulU cd_Value_UrmulU ct_Value_UrmulU oc_Value_UfloordivU kV_Value_UfloordivU dc_Value_UfloordivU pm_Value_UfloordivU cd_Value_UfloordivU ct_Value_UfloordivU oc_Value_UandU kV_Value_UandU dc_Value_UandU pm_Value_UandU cd_Value_UandU ct_Value_UandU oc_Value_UrandU kV_Value_UrandU dc_Value_UrandU pm_Value_UrandU cd_Value_UrandU ct_Value_UrandU oc_Value_UorU kV_Value_UorU dc_Value_UorU pm_Value_UorU cd_Value_UorU ct_Value_UorU oc_Value_UrorU kV_Value_UrorU dc_Value_UrorU pm_Value_UrorU cd_Value_UrorU ct_Value_UrorU oc_Value_UinvertU kV_Value_UinvertU dc_Value_UinvertU pm_Value_UinvertU cd_Value_UinvertU ct_Value_UinvertU oc_Value_UeqU kV_Value_UeqU dc_Value_UeqU pm_Value_UeqU cd_Value_UeqU ct_Value_UeqU oc_Value_rest kV_Value_rest dc_Value_rest pm_Value_rest cd_Value_rest ct_Value_rest oc_Value_same kV_Value_same dc_Value_same pm_Value_same cd_Value_same ct_Value_same oc_Value_less kV_Value_less dc_Value_less pm_Value_less cd_Value_less ct_Value_less oc_law_well kV_law_well dc_law_well pm_law_well cd_law_well ct_law_well oc_law_take kV_law_take dc_law_take pm_law_take cd_law_take ct_law_take oc_law_cells kV_law_cells dc_law_cells pm_law_cells cd_law_cells ct_law_cells oc_law_integer kV_law_integer dc_law_integer pm_law_integer cd_law_integer ct_law_integer oc_law_recipe kV_law_recipe dc_law_recipe pm_law_recipe cd_law_recipe ct_law_recipe oc_law_signs kV_law_signs dc_law_signs pm_law_signs cd_law_signs ct_law_signs oc_law_joined kV_law_joined dc_law_joined pm_law_joined cd_law_joined ct_law_joined oc_law_side kV_law_side dc_law_side pm_law_side cd_law_side ct_law_side oc_law_built kV_law_built dc_law_built pm_law_built cd_law_built ct_law_built oc_law_leaf kV_law_leaf dc_law_leaf pm_law_leaf cd_law_leaf ct_law_leaf oc_law_changed kV_law_changed dc_law_changed pm_law_changed cd_law_changed ct_law_changed oc_law_both kV_law_both dc_law_both pm_law_both cd_law_both ct_law_both oc_law_fits kV_law_fits dc_law_fits pm_law_fits cd_law_fits ct_law_fits oc_law kV_law dc_law pm_law cd_law ct_law v_LETTERS : Value} {od_RunError_UinitU an_RunError_UinitU od_is_name an_is_name od_check_name an_check_name od_check_divisor an_check_divisor od_named an_named od_now an_now od_passed an_passed od_number an_number od_value_of an_value_of od_Value_UinitU an_Value_UinitU od_Value_UaddU an_Value_UaddU od_Value_UraddU an_Value_UraddU od_Value_UsubU an_Value_UsubU od_Value_UrsubU an_Value_UrsubU od_Value_UmulU an_Value_UmulU od_Value_UrmulU an_Value_UrmulU od_Value_UfloordivU an_Value_UfloordivU od_Value_UandU an_Value_UandU od_Value_UrandU an_Value_UrandU od_Value_UorU an_Value_UorU od_Value_UrorU an_Value_UrorU od_Value_UinvertU an_Value_UinvertU od_Value_UeqU an_Value_UeqU od_Value_rest an_Value_rest od_Value_same an_Value_same od_Value_less an_Value_less od_law_well an_law_well od_law_take an_law_take od_law_cells an_law_cells od_law_integer an_law_integer od_law_recipe an_law_recipe od_law_signs an_law_signs od_law_joined an_law_joined od_law_side an_law_side od_law_built an_law_built od_law_leaf an_law_leaf od_law_changed an_law_changed od_law_both an_law_both od_law_fits an_law_fits od_law an_law dd_InvalidDivisor dd_InvalidName : Option Addr} {sl_RunError_UinitU sl_is_name sl_check_name sl_check_divisor sl_named sl_now sl_passed sl_number sl_value_of sl_Value_UinitU sl_Value_UaddU sl_Value_UraddU sl_Value_UsubU sl_Value_UrsubU sl_Value_UmulU sl_Value_UrmulU sl_Value_UfloordivU sl_Value_UandU sl_Value_UrandU sl_Value_UorU sl_Value_UrorU sl_Value_UinvertU sl_Value_UeqU sl_Value_rest sl_Value_same sl_Value_less sl_law_well sl_law_take sl_law_cells sl_law_integer sl_law_recipe sl_law_signs sl_law_joined sl_law_side sl_law_built sl_law_leaf sl_law_changed sl_law_both sl_law_fits sl_law : Array (Option Value)} {li_mul ri_mul li_add ri_add li_sub ri_sub li_and ri_and li_or ri_or li_floordiv ri_floordiv k0_InvalidDivisor k1_InvalidDivisor k2_InvalidDivisor k3_InvalidDivisor k5_InvalidDivisor k0_InvalidName k1_InvalidName k2_InvalidName k3_InvalidName k5_InvalidName : Option Value} {nm_InvalidDivisor qn_InvalidDivisor nm_InvalidName qn_InvalidName : Str} {bs_InvalidDivisor bm_InvalidDivisor sub_InvalidDivisor bs_InvalidName bm_InvalidName sub_InvalidName : List Value} {sn_InvalidDivisor sn_InvalidName : List Str} {ab_InvalidDivisor ab_InvalidName : Bool} {col_InvalidDivisor col_InvalidName : Option Bool} {t_LETTERS : Tok}
    (a_Value : PySem.W.nsIn K mainGlobals "Value" = some (some (.ref C_Value)))
    (a_RunError : PySem.W.nsIn K mainGlobals "RunError" = some (some (.ref C_RunError)))
    (a_InvalidName : PySem.W.nsIn K mainGlobals "InvalidName" = some (some (.ref C_InvalidName)))
    (a_UnknownName : PySem.W.nsIn K mainGlobals "UnknownName" = some (some (.ref C_UnknownName)))
    (a_InvalidDivisor : PySem.W.nsIn K mainGlobals "InvalidDivisor" = some (some (.ref C_InvalidDivisor)))
    (a_RunError_UinitU : PySem.W.findIn K (.ref C_RunError) "__init__" = some (some (.ref f_RunError_UinitU)))
    (i_RunError_UinitU : PySem.W.isFn K (.ref f_RunError_UinitU) = true)
    (l_RunError_UinitU : K.lookup f_RunError_UinitU = some ⟨oc_RunError_UinitU, od_RunError_UinitU, .func (PySem.W.fnOf "__init__" "RunError.__init__" (defArgs s_RunError_UinitU) (defBody s_RunError_UinitU) (defScope s_RunError_UinitU) .none kV_RunError_UinitU dc_RunError_UinitU pm_RunError_UinitU an_RunError_UinitU cd_RunError_UinitU ct_RunError_UinitU), sl_RunError_UinitU⟩)
    (c_RunError_UinitU : PySem.W.codeIn K cd_RunError_UinitU "RunError.__init__" = true)
    (k_RunError_UinitU : PySem.W.keepIn K (.ref f_RunError_UinitU) = true)
    (a_is_name : PySem.W.nsIn K mainGlobals "is_name" = some (some (.ref f_is_name)))
    (l_is_name : K.lookup f_is_name = some ⟨oc_is_name, od_is_name, .func (PySem.W.fnOf "is_name" "is_name" (defArgs s_is_name) (defBody s_is_name) (defScope s_is_name) .none kV_is_name dc_is_name pm_is_name an_is_name cd_is_name ct_is_name), sl_is_name⟩)
    (c_is_name : PySem.W.codeIn K cd_is_name "is_name" = true)
    (k_is_name : PySem.W.keepIn K (.ref f_is_name) = true)
    (a_check_name : PySem.W.nsIn K mainGlobals "check_name" = some (some (.ref f_check_name)))
    (l_check_name : K.lookup f_check_name = some ⟨oc_check_name, od_check_name, .func (PySem.W.fnOf "check_name" "check_name" (defArgs s_check_name) (defBody s_check_name) (defScope s_check_name) .none kV_check_name dc_check_name pm_check_name an_check_name cd_check_name ct_check_name), sl_check_name⟩)
    (c_check_name : PySem.W.codeIn K cd_check_name "check_name" = true)
    (k_check_name : PySem.W.keepIn K (.ref f_check_name) = true)
    (a_check_divisor : PySem.W.nsIn K mainGlobals "check_divisor" = some (some (.ref f_check_divisor)))
    (l_check_divisor : K.lookup f_check_divisor = some ⟨oc_check_divisor, od_check_divisor, .func (PySem.W.fnOf "check_divisor" "check_divisor" (defArgs s_check_divisor) (defBody s_check_divisor) (defScope s_check_divisor) .none kV_check_divisor dc_check_divisor pm_check_divisor an_check_divisor cd_check_divisor ct_check_divisor), sl_check_divisor⟩)
    (c_check_divisor : PySem.W.codeIn K cd_check_divisor "check_divisor" = true)
    (k_check_divisor : PySem.W.keepIn K (.ref f_check_divisor) = true)
    (a_named : PySem.W.nsIn K mainGlobals "named" = some (some (.ref f_named)))
    (l_named : K.lookup f_named = some ⟨oc_named, od_named, .func (PySem.W.fnOf "named" "named" (defArgs s_named) (defBody s_named) (defScope s_named) .none kV_named dc_named pm_named an_named cd_named ct_named), sl_named⟩)
    (c_named : PySem.W.codeIn K cd_named "named" = true)
    (k_named : PySem.W.keepIn K (.ref f_named) = true)
    (a_now : PySem.W.nsIn K mainGlobals "now" = some (some (.ref f_now)))
    (l_now : K.lookup f_now = some ⟨oc_now, od_now, .func (PySem.W.fnOf "now" "now" (defArgs s_now) (defBody s_now) (defScope s_now) .none kV_now dc_now pm_now an_now cd_now ct_now), sl_now⟩)
    (c_now : PySem.W.codeIn K cd_now "now" = true)
    (k_now : PySem.W.keepIn K (.ref f_now) = true)
    (a_passed : PySem.W.nsIn K mainGlobals "passed" = some (some (.ref f_passed)))
    (l_passed : K.lookup f_passed = some ⟨oc_passed, od_passed, .func (PySem.W.fnOf "passed" "passed" (defArgs s_passed) (defBody s_passed) (defScope s_passed) .none kV_passed dc_passed pm_passed an_passed cd_passed ct_passed), sl_passed⟩)
    (c_passed : PySem.W.codeIn K cd_passed "passed" = true)
    (k_passed : PySem.W.keepIn K (.ref f_passed) = true)
    (a_number : PySem.W.nsIn K mainGlobals "number" = some (some (.ref f_number)))
    (l_number : K.lookup f_number = some ⟨oc_number, od_number, .func (PySem.W.fnOf "number" "number" (defArgs s_number) (defBody s_number) (defScope s_number) .none kV_number dc_number pm_number an_number cd_number ct_number), sl_number⟩)
    (c_number : PySem.W.codeIn K cd_number "number" = true)
    (k_number : PySem.W.keepIn K (.ref f_number) = true)
    (a_value_of : PySem.W.nsIn K mainGlobals "value_of" = some (some (.ref f_value_of)))
    (l_value_of : K.lookup f_value_of = some ⟨oc_value_of, od_value_of, .func (PySem.W.fnOf "value_of" "value_of" (defArgs s_value_of) (defBody s_value_of) (defScope s_value_of) .none kV_value_of dc_value_of pm_value_of an_value_of cd_value_of ct_value_of), sl_value_of⟩)
    (c_value_of : PySem.W.codeIn K cd_value_of "value_of" = true)
    (k_value_of : PySem.W.keepIn K (.ref f_value_of) = true)
    (a_Value_UinitU : PySem.W.findIn K (.ref C_Value) "__init__" = some (some (.ref f_Value_UinitU)))
    (i_Value_UinitU : PySem.W.isFn K (.ref f_Value_UinitU) = true)
    (l_Value_UinitU : K.lookup f_Value_UinitU = some ⟨oc_Value_UinitU, od_Value_UinitU, .func (PySem.W.fnOf "__init__" "Value.__init__" (defArgs s_Value_UinitU) (defBody s_Value_UinitU) (defScope s_Value_UinitU) .none kV_Value_UinitU dc_Value_UinitU pm_Value_UinitU an_Value_UinitU cd_Value_UinitU ct_Value_UinitU), sl_Value_UinitU⟩)
    (c_Value_UinitU : PySem.W.codeIn K cd_Value_UinitU "Value.__init__" = true)
    (k_Value_UinitU : PySem.W.keepIn K (.ref f_Value_UinitU) = true)
    (a_Value_UaddU : PySem.W.findIn K (.ref C_Value) "__add__" = some (some (.ref f_Value_UaddU)))
    (i_Value_UaddU : PySem.W.isFn K (.ref f_Value_UaddU) = true)
    (l_Value_UaddU : K.lookup f_Value_UaddU = some ⟨oc_Value_UaddU, od_Value_UaddU, .func (PySem.W.fnOf "__add__" "Value.__add__" (defArgs s_Value_UaddU) (defBody s_Value_UaddU) (defScope s_Value_UaddU) .none kV_Value_UaddU dc_Value_UaddU pm_Value_UaddU an_Value_UaddU cd_Value_UaddU ct_Value_UaddU), sl_Value_UaddU⟩)
    (c_Value_UaddU : PySem.W.codeIn K cd_Value_UaddU "Value.__add__" = true)
    (k_Value_UaddU : PySem.W.keepIn K (.ref f_Value_UaddU) = true)
    (a_Value_UraddU : PySem.W.findIn K (.ref C_Value) "__radd__" = some (some (.ref f_Value_UraddU)))
    (i_Value_UraddU : PySem.W.isFn K (.ref f_Value_UraddU) = true)
    (l_Value_UraddU : K.lookup f_Value_UraddU = some ⟨oc_Value_UraddU, od_Value_UraddU, .func (PySem.W.fnOf "__radd__" "Value.__radd__" (defArgs s_Value_UraddU) (defBody s_Value_UraddU) (defScope s_Value_UraddU) .none kV_Value_UraddU dc_Value_UraddU pm_Value_UraddU an_Value_UraddU cd_Value_UraddU ct_Value_UraddU), sl_Value_UraddU⟩)
    (c_Value_UraddU : PySem.W.codeIn K cd_Value_UraddU "Value.__radd__" = true)
    (k_Value_UraddU : PySem.W.keepIn K (.ref f_Value_UraddU) = true)
    (a_Value_UsubU : PySem.W.findIn K (.ref C_Value) "__sub__" = some (some (.ref f_Value_UsubU)))
    (i_Value_UsubU : PySem.W.isFn K (.ref f_Value_UsubU) = true)
    (l_Value_UsubU : K.lookup f_Value_UsubU = some ⟨oc_Value_UsubU, od_Value_UsubU, .func (PySem.W.fnOf "__sub__" "Value.__sub__" (defArgs s_Value_UsubU) (defBody s_Value_UsubU) (defScope s_Value_UsubU) .none kV_Value_UsubU dc_Value_UsubU pm_Value_UsubU an_Value_UsubU cd_Value_UsubU ct_Value_UsubU), sl_Value_UsubU⟩)
    (c_Value_UsubU : PySem.W.codeIn K cd_Value_UsubU "Value.__sub__" = true)
    (k_Value_UsubU : PySem.W.keepIn K (.ref f_Value_UsubU) = true)
    (a_Value_UrsubU : PySem.W.findIn K (.ref C_Value) "__rsub__" = some (some (.ref f_Value_UrsubU)))
    (i_Value_UrsubU : PySem.W.isFn K (.ref f_Value_UrsubU) = true)
    (l_Value_UrsubU : K.lookup f_Value_UrsubU = some ⟨oc_Value_UrsubU, od_Value_UrsubU, .func (PySem.W.fnOf "__rsub__" "Value.__rsub__" (defArgs s_Value_UrsubU) (defBody s_Value_UrsubU) (defScope s_Value_UrsubU) .none kV_Value_UrsubU dc_Value_UrsubU pm_Value_UrsubU an_Value_UrsubU cd_Value_UrsubU ct_Value_UrsubU), sl_Value_UrsubU⟩)
    (c_Value_UrsubU : PySem.W.codeIn K cd_Value_UrsubU "Value.__rsub__" = true)
    (k_Value_UrsubU : PySem.W.keepIn K (.ref f_Value_UrsubU) = true)
    (a_Value_UmulU : PySem.W.findIn K (.ref C_Value) "__mul__" = some (some (.ref f_Value_UmulU)))
    (i_Value_UmulU : PySem.W.isFn K (.ref f_Value_UmulU) = true)
    (l_Value_UmulU : K.lookup f_Value_UmulU = some ⟨oc_Value_UmulU, od_Value_UmulU, .func (PySem.W.fnOf "__mul__" "Value.__mul__" (defArgs s_Value_UmulU) (defBody s_Value_UmulU) (defScope s_Value_UmulU) .none kV_Value_UmulU dc_Value_UmulU pm_Value_UmulU an_Value_UmulU cd_Value_UmulU ct_Value_UmulU), sl_Value_UmulU⟩)
    (c_Value_UmulU : PySem.W.codeIn K cd_Value_UmulU "Value.__mul__" = true)
    (k_Value_UmulU : PySem.W.keepIn K (.ref f_Value_UmulU) = true)
    (a_Value_UrmulU : PySem.W.findIn K (.ref C_Value) "__rmul__" = some (some (.ref f_Value_UrmulU)))
    (i_Value_UrmulU : PySem.W.isFn K (.ref f_Value_UrmulU) = true)
    (l_Value_UrmulU : K.lookup f_Value_UrmulU = some ⟨oc_Value_UrmulU, od_Value_UrmulU, .func (PySem.W.fnOf "__rmul__" "Value.__rmul__" (defArgs s_Value_UrmulU) (defBody s_Value_UrmulU) (defScope s_Value_UrmulU) .none kV_Value_UrmulU dc_Value_UrmulU pm_Value_UrmulU an_Value_UrmulU cd_Value_UrmulU ct_Value_UrmulU), sl_Value_UrmulU⟩)
    (c_Value_UrmulU : PySem.W.codeIn K cd_Value_UrmulU "Value.__rmul__" = true)
    (k_Value_UrmulU : PySem.W.keepIn K (.ref f_Value_UrmulU) = true)
    (a_Value_UfloordivU : PySem.W.findIn K (.ref C_Value) "__floordiv__" = some (some (.ref f_Value_UfloordivU)))
    (i_Value_UfloordivU : PySem.W.isFn K (.ref f_Value_UfloordivU) = true)
    (l_Value_UfloordivU : K.lookup f_Value_UfloordivU = some ⟨oc_Value_UfloordivU, od_Value_UfloordivU, .func (PySem.W.fnOf "__floordiv__" "Value.__floordiv__" (defArgs s_Value_UfloordivU) (defBody s_Value_UfloordivU) (defScope s_Value_UfloordivU) .none kV_Value_UfloordivU dc_Value_UfloordivU pm_Value_UfloordivU an_Value_UfloordivU cd_Value_UfloordivU ct_Value_UfloordivU), sl_Value_UfloordivU⟩)
    (c_Value_UfloordivU : PySem.W.codeIn K cd_Value_UfloordivU "Value.__floordiv__" = true)
    (k_Value_UfloordivU : PySem.W.keepIn K (.ref f_Value_UfloordivU) = true)
    (a_Value_UandU : PySem.W.findIn K (.ref C_Value) "__and__" = some (some (.ref f_Value_UandU)))
    (i_Value_UandU : PySem.W.isFn K (.ref f_Value_UandU) = true)
    (l_Value_UandU : K.lookup f_Value_UandU = some ⟨oc_Value_UandU, od_Value_UandU, .func (PySem.W.fnOf "__and__" "Value.__and__" (defArgs s_Value_UandU) (defBody s_Value_UandU) (defScope s_Value_UandU) .none kV_Value_UandU dc_Value_UandU pm_Value_UandU an_Value_UandU cd_Value_UandU ct_Value_UandU), sl_Value_UandU⟩)
    (c_Value_UandU : PySem.W.codeIn K cd_Value_UandU "Value.__and__" = true)
    (k_Value_UandU : PySem.W.keepIn K (.ref f_Value_UandU) = true)
    (a_Value_UrandU : PySem.W.findIn K (.ref C_Value) "__rand__" = some (some (.ref f_Value_UrandU)))
    (i_Value_UrandU : PySem.W.isFn K (.ref f_Value_UrandU) = true)
    (l_Value_UrandU : K.lookup f_Value_UrandU = some ⟨oc_Value_UrandU, od_Value_UrandU, .func (PySem.W.fnOf "__rand__" "Value.__rand__" (defArgs s_Value_UrandU) (defBody s_Value_UrandU) (defScope s_Value_UrandU) .none kV_Value_UrandU dc_Value_UrandU pm_Value_UrandU an_Value_UrandU cd_Value_UrandU ct_Value_UrandU), sl_Value_UrandU⟩)
    (c_Value_UrandU : PySem.W.codeIn K cd_Value_UrandU "Value.__rand__" = true)
    (k_Value_UrandU : PySem.W.keepIn K (.ref f_Value_UrandU) = true)
    (a_Value_UorU : PySem.W.findIn K (.ref C_Value) "__or__" = some (some (.ref f_Value_UorU)))
    (i_Value_UorU : PySem.W.isFn K (.ref f_Value_UorU) = true)
    (l_Value_UorU : K.lookup f_Value_UorU = some ⟨oc_Value_UorU, od_Value_UorU, .func (PySem.W.fnOf "__or__" "Value.__or__" (defArgs s_Value_UorU) (defBody s_Value_UorU) (defScope s_Value_UorU) .none kV_Value_UorU dc_Value_UorU pm_Value_UorU an_Value_UorU cd_Value_UorU ct_Value_UorU), sl_Value_UorU⟩)
    (c_Value_UorU : PySem.W.codeIn K cd_Value_UorU "Value.__or__" = true)
    (k_Value_UorU : PySem.W.keepIn K (.ref f_Value_UorU) = true)
    (a_Value_UrorU : PySem.W.findIn K (.ref C_Value) "__ror__" = some (some (.ref f_Value_UrorU)))
    (i_Value_UrorU : PySem.W.isFn K (.ref f_Value_UrorU) = true)
    (l_Value_UrorU : K.lookup f_Value_UrorU = some ⟨oc_Value_UrorU, od_Value_UrorU, .func (PySem.W.fnOf "__ror__" "Value.__ror__" (defArgs s_Value_UrorU) (defBody s_Value_UrorU) (defScope s_Value_UrorU) .none kV_Value_UrorU dc_Value_UrorU pm_Value_UrorU an_Value_UrorU cd_Value_UrorU ct_Value_UrorU), sl_Value_UrorU⟩)
    (c_Value_UrorU : PySem.W.codeIn K cd_Value_UrorU "Value.__ror__" = true)
    (k_Value_UrorU : PySem.W.keepIn K (.ref f_Value_UrorU) = true)
    (a_Value_UinvertU : PySem.W.findIn K (.ref C_Value) "__invert__" = some (some (.ref f_Value_UinvertU)))
    (i_Value_UinvertU : PySem.W.isFn K (.ref f_Value_UinvertU) = true)
    (l_Value_UinvertU : K.lookup f_Value_UinvertU = some ⟨oc_Value_UinvertU, od_Value_UinvertU, .func (PySem.W.fnOf "__invert__" "Value.__invert__" (defArgs s_Value_UinvertU) (defBody s_Value_UinvertU) (defScope s_Value_UinvertU) .none kV_Value_UinvertU dc_Value_UinvertU pm_Value_UinvertU an_Value_UinvertU cd_Value_UinvertU ct_Value_UinvertU), sl_Value_UinvertU⟩)
    (c_Value_UinvertU : PySem.W.codeIn K cd_Value_UinvertU "Value.__invert__" = true)
    (k_Value_UinvertU : PySem.W.keepIn K (.ref f_Value_UinvertU) = true)
    (a_Value_UeqU : PySem.W.findIn K (.ref C_Value) "__eq__" = some (some (.ref f_Value_UeqU)))
    (i_Value_UeqU : PySem.W.isFn K (.ref f_Value_UeqU) = true)
    (l_Value_UeqU : K.lookup f_Value_UeqU = some ⟨oc_Value_UeqU, od_Value_UeqU, .func (PySem.W.fnOf "__eq__" "Value.__eq__" (defArgs s_Value_UeqU) (defBody s_Value_UeqU) (defScope s_Value_UeqU) .none kV_Value_UeqU dc_Value_UeqU pm_Value_UeqU an_Value_UeqU cd_Value_UeqU ct_Value_UeqU), sl_Value_UeqU⟩)
    (c_Value_UeqU : PySem.W.codeIn K cd_Value_UeqU "Value.__eq__" = true)
    (k_Value_UeqU : PySem.W.keepIn K (.ref f_Value_UeqU) = true)
    (a_Value_rest : PySem.W.findIn K (.ref C_Value) "rest" = some (some (.ref f_Value_rest)))
    (i_Value_rest : PySem.W.isFn K (.ref f_Value_rest) = true)
    (l_Value_rest : K.lookup f_Value_rest = some ⟨oc_Value_rest, od_Value_rest, .func (PySem.W.fnOf "rest" "Value.rest" (defArgs s_Value_rest) (defBody s_Value_rest) (defScope s_Value_rest) .none kV_Value_rest dc_Value_rest pm_Value_rest an_Value_rest cd_Value_rest ct_Value_rest), sl_Value_rest⟩)
    (c_Value_rest : PySem.W.codeIn K cd_Value_rest "Value.rest" = true)
    (k_Value_rest : PySem.W.keepIn K (.ref f_Value_rest) = true)
    (a_Value_same : PySem.W.findIn K (.ref C_Value) "same" = some (some (.ref f_Value_same)))
    (i_Value_same : PySem.W.isFn K (.ref f_Value_same) = true)
    (l_Value_same : K.lookup f_Value_same = some ⟨oc_Value_same, od_Value_same, .func (PySem.W.fnOf "same" "Value.same" (defArgs s_Value_same) (defBody s_Value_same) (defScope s_Value_same) .none kV_Value_same dc_Value_same pm_Value_same an_Value_same cd_Value_same ct_Value_same), sl_Value_same⟩)
    (c_Value_same : PySem.W.codeIn K cd_Value_same "Value.same" = true)
    (k_Value_same : PySem.W.keepIn K (.ref f_Value_same) = true)
    (a_Value_less : PySem.W.findIn K (.ref C_Value) "less" = some (some (.ref f_Value_less)))
    (i_Value_less : PySem.W.isFn K (.ref f_Value_less) = true)
    (l_Value_less : K.lookup f_Value_less = some ⟨oc_Value_less, od_Value_less, .func (PySem.W.fnOf "less" "Value.less" (defArgs s_Value_less) (defBody s_Value_less) (defScope s_Value_less) .none kV_Value_less dc_Value_less pm_Value_less an_Value_less cd_Value_less ct_Value_less), sl_Value_less⟩)
    (c_Value_less : PySem.W.codeIn K cd_Value_less "Value.less" = true)
    (k_Value_less : PySem.W.keepIn K (.ref f_Value_less) = true)
    (a_law_well : PySem.W.nsIn K mainGlobals "_law_well" = some (some (.ref f_law_well)))
    (l_law_well : K.lookup f_law_well = some ⟨oc_law_well, od_law_well, .func (PySem.W.fnOf "_law_well" "_law_well" (defArgs s_law_well) (defBody s_law_well) (defScope s_law_well) .none kV_law_well dc_law_well pm_law_well an_law_well cd_law_well ct_law_well), sl_law_well⟩)
    (c_law_well : PySem.W.codeIn K cd_law_well "_law_well" = true)
    (k_law_well : PySem.W.keepIn K (.ref f_law_well) = true)
    (a_law_take : PySem.W.nsIn K mainGlobals "_law_take" = some (some (.ref f_law_take)))
    (l_law_take : K.lookup f_law_take = some ⟨oc_law_take, od_law_take, .func (PySem.W.fnOf "_law_take" "_law_take" (defArgs s_law_take) (defBody s_law_take) (defScope s_law_take) .none kV_law_take dc_law_take pm_law_take an_law_take cd_law_take ct_law_take), sl_law_take⟩)
    (c_law_take : PySem.W.codeIn K cd_law_take "_law_take" = true)
    (k_law_take : PySem.W.keepIn K (.ref f_law_take) = true)
    (a_law_cells : PySem.W.nsIn K mainGlobals "_law_cells" = some (some (.ref f_law_cells)))
    (l_law_cells : K.lookup f_law_cells = some ⟨oc_law_cells, od_law_cells, .func (PySem.W.fnOf "_law_cells" "_law_cells" (defArgs s_law_cells) (defBody s_law_cells) (defScope s_law_cells) .none kV_law_cells dc_law_cells pm_law_cells an_law_cells cd_law_cells ct_law_cells), sl_law_cells⟩)
    (c_law_cells : PySem.W.codeIn K cd_law_cells "_law_cells" = true)
    (k_law_cells : PySem.W.keepIn K (.ref f_law_cells) = true)
    (a_law_integer : PySem.W.nsIn K mainGlobals "_law_integer" = some (some (.ref f_law_integer)))
    (l_law_integer : K.lookup f_law_integer = some ⟨oc_law_integer, od_law_integer, .func (PySem.W.fnOf "_law_integer" "_law_integer" (defArgs s_law_integer) (defBody s_law_integer) (defScope s_law_integer) .none kV_law_integer dc_law_integer pm_law_integer an_law_integer cd_law_integer ct_law_integer), sl_law_integer⟩)
    (c_law_integer : PySem.W.codeIn K cd_law_integer "_law_integer" = true)
    (k_law_integer : PySem.W.keepIn K (.ref f_law_integer) = true)
    (a_law_recipe : PySem.W.nsIn K mainGlobals "_law_recipe" = some (some (.ref f_law_recipe)))
    (l_law_recipe : K.lookup f_law_recipe = some ⟨oc_law_recipe, od_law_recipe, .func (PySem.W.fnOf "_law_recipe" "_law_recipe" (defArgs s_law_recipe) (defBody s_law_recipe) (defScope s_law_recipe) .none kV_law_recipe dc_law_recipe pm_law_recipe an_law_recipe cd_law_recipe ct_law_recipe), sl_law_recipe⟩)
    (c_law_recipe : PySem.W.codeIn K cd_law_recipe "_law_recipe" = true)
    (k_law_recipe : PySem.W.keepIn K (.ref f_law_recipe) = true)
    (a_law_signs : PySem.W.nsIn K mainGlobals "_law_signs" = some (some (.ref f_law_signs)))
    (l_law_signs : K.lookup f_law_signs = some ⟨oc_law_signs, od_law_signs, .func (PySem.W.fnOf "_law_signs" "_law_signs" (defArgs s_law_signs) (defBody s_law_signs) (defScope s_law_signs) .none kV_law_signs dc_law_signs pm_law_signs an_law_signs cd_law_signs ct_law_signs), sl_law_signs⟩)
    (c_law_signs : PySem.W.codeIn K cd_law_signs "_law_signs" = true)
    (k_law_signs : PySem.W.keepIn K (.ref f_law_signs) = true)
    (a_law_joined : PySem.W.nsIn K mainGlobals "_law_joined" = some (some (.ref f_law_joined)))
    (l_law_joined : K.lookup f_law_joined = some ⟨oc_law_joined, od_law_joined, .func (PySem.W.fnOf "_law_joined" "_law_joined" (defArgs s_law_joined) (defBody s_law_joined) (defScope s_law_joined) .none kV_law_joined dc_law_joined pm_law_joined an_law_joined cd_law_joined ct_law_joined), sl_law_joined⟩)
    (c_law_joined : PySem.W.codeIn K cd_law_joined "_law_joined" = true)
    (k_law_joined : PySem.W.keepIn K (.ref f_law_joined) = true)
    (a_law_side : PySem.W.nsIn K mainGlobals "_law_side" = some (some (.ref f_law_side)))
    (l_law_side : K.lookup f_law_side = some ⟨oc_law_side, od_law_side, .func (PySem.W.fnOf "_law_side" "_law_side" (defArgs s_law_side) (defBody s_law_side) (defScope s_law_side) .none kV_law_side dc_law_side pm_law_side an_law_side cd_law_side ct_law_side), sl_law_side⟩)
    (c_law_side : PySem.W.codeIn K cd_law_side "_law_side" = true)
    (k_law_side : PySem.W.keepIn K (.ref f_law_side) = true)
    (a_law_built : PySem.W.nsIn K mainGlobals "_law_built" = some (some (.ref f_law_built)))
    (l_law_built : K.lookup f_law_built = some ⟨oc_law_built, od_law_built, .func (PySem.W.fnOf "_law_built" "_law_built" (defArgs s_law_built) (defBody s_law_built) (defScope s_law_built) .none kV_law_built dc_law_built pm_law_built an_law_built cd_law_built ct_law_built), sl_law_built⟩)
    (c_law_built : PySem.W.codeIn K cd_law_built "_law_built" = true)
    (k_law_built : PySem.W.keepIn K (.ref f_law_built) = true)
    (a_law_leaf : PySem.W.nsIn K mainGlobals "_law_leaf" = some (some (.ref f_law_leaf)))
    (l_law_leaf : K.lookup f_law_leaf = some ⟨oc_law_leaf, od_law_leaf, .func (PySem.W.fnOf "_law_leaf" "_law_leaf" (defArgs s_law_leaf) (defBody s_law_leaf) (defScope s_law_leaf) .none kV_law_leaf dc_law_leaf pm_law_leaf an_law_leaf cd_law_leaf ct_law_leaf), sl_law_leaf⟩)
    (c_law_leaf : PySem.W.codeIn K cd_law_leaf "_law_leaf" = true)
    (k_law_leaf : PySem.W.keepIn K (.ref f_law_leaf) = true)
    (a_law_changed : PySem.W.nsIn K mainGlobals "_law_changed" = some (some (.ref f_law_changed)))
    (l_law_changed : K.lookup f_law_changed = some ⟨oc_law_changed, od_law_changed, .func (PySem.W.fnOf "_law_changed" "_law_changed" (defArgs s_law_changed) (defBody s_law_changed) (defScope s_law_changed) .none kV_law_changed dc_law_changed pm_law_changed an_law_changed cd_law_changed ct_law_changed), sl_law_changed⟩)
    (c_law_changed : PySem.W.codeIn K cd_law_changed "_law_changed" = true)
    (k_law_changed : PySem.W.keepIn K (.ref f_law_changed) = true)
    (a_law_both : PySem.W.nsIn K mainGlobals "_law_both" = some (some (.ref f_law_both)))
    (l_law_both : K.lookup f_law_both = some ⟨oc_law_both, od_law_both, .func (PySem.W.fnOf "_law_both" "_law_both" (defArgs s_law_both) (defBody s_law_both) (defScope s_law_both) .none kV_law_both dc_law_both pm_law_both an_law_both cd_law_both ct_law_both), sl_law_both⟩)
    (c_law_both : PySem.W.codeIn K cd_law_both "_law_both" = true)
    (k_law_both : PySem.W.keepIn K (.ref f_law_both) = true)
    (a_law_fits : PySem.W.nsIn K mainGlobals "_law_fits" = some (some (.ref f_law_fits)))
    (l_law_fits : K.lookup f_law_fits = some ⟨oc_law_fits, od_law_fits, .func (PySem.W.fnOf "_law_fits" "_law_fits" (defArgs s_law_fits) (defBody s_law_fits) (defScope s_law_fits) .none kV_law_fits dc_law_fits pm_law_fits an_law_fits cd_law_fits ct_law_fits), sl_law_fits⟩)
    (c_law_fits : PySem.W.codeIn K cd_law_fits "_law_fits" = true)
    (k_law_fits : PySem.W.keepIn K (.ref f_law_fits) = true)
    (a_law : PySem.W.nsIn K mainGlobals "law" = some (some (.ref f_law)))
    (l_law : K.lookup f_law = some ⟨oc_law, od_law, .func (PySem.W.fnOf "law" "law" (defArgs s_law) (defBody s_law) (defScope s_law) .none kV_law dc_law pm_law an_law cd_law ct_law), sl_law⟩)
    (c_law : PySem.W.codeIn K cd_law "law" = true)
    (k_law : PySem.W.keepIn K (.ref f_law) = true)
    (tI : PySem.W.typeIn K (.ref f_RunError_UinitU) = some (.type "function"))
    (pg_Value : PySem.W.plainGet K C_Value Str.empty = true)
    (hd_Value : PySem.W.hasDictIn K C_Value = true)
    (po_Value : PySem.W.plainOver K C_Value = true)
    (sa_Value : PySem.W.findIn K (.ref C_Value) "__setattr__" = some (some (.builtin "object.__setattr__")))
    (mk_Value : PySem.W.makesIn K C_Value = true)
    (kc_Value : PySem.W.keepIn K (.ref C_Value) = true)
    (n_Value_sign : PySem.W.findIn K (.ref C_Value) "sign" = some none)
    (n_Value_first : PySem.W.findIn K (.ref C_Value) "first" = some none)
    (n_Value_second : PySem.W.findIn K (.ref C_Value) "second" = some none)
    (ic_Value : PySem.W.findIn K (.ref C_Value) "__class__" = some (some (.builtin "object.__class__")))
    (im_Value : PySem.W.mroIn K C_Value (.type "object") = some true)
    (ty_Value : PySem.W.typeIn K (.ref C_Value) = some (.type "type"))
    (ig : PySem.W.specialIn K (.builtin "object.__class__") "__get__" = some (some (.builtin "getset_descriptor.__get__")))
    (it : PySem.W.takesIn K (.builtin "object.__class__") = some true)
    (oli_mul : PySem.W.findIn K (.type "int") "__mul__" = some li_mul)
    (ori_mul : PySem.W.findIn K (.type "int") "__rmul__" = some ri_mul)
    (oli_add : PySem.W.findIn K (.type "int") "__add__" = some li_add)
    (ori_add : PySem.W.findIn K (.type "int") "__radd__" = some ri_add)
    (oli_sub : PySem.W.findIn K (.type "int") "__sub__" = some li_sub)
    (ori_sub : PySem.W.findIn K (.type "int") "__rsub__" = some ri_sub)
    (oli_and : PySem.W.findIn K (.type "int") "__and__" = some li_and)
    (ori_and : PySem.W.findIn K (.type "int") "__rand__" = some ri_and)
    (oli_or : PySem.W.findIn K (.type "int") "__or__" = some li_or)
    (ori_or : PySem.W.findIn K (.type "int") "__ror__" = some ri_or)
    (oli_floordiv : PySem.W.findIn K (.type "int") "__floordiv__" = some li_floordiv)
    (ori_floordiv : PySem.W.findIn K (.type "int") "__rfloordiv__" = some ri_floordiv)
    (orr_floordiv : PySem.W.findIn K (.ref C_Value) "__rfloordiv__" = some none)
    (sf : PySem.W.selfFirst K C_Value = true)
    (ni : PySem.W.subIn K (.type "int") (.ref C_Value) = some false)
    (no : PySem.W.subIn K (.ref C_Value) (.type "int") = some false)
    (neq_Value : PySem.W.findIn K (.ref C_Value) "__ne__" = some (some (.builtin "object.__ne__")))
    (kk_Value_NoneType : PySem.W.subIn K (.ref C_Value) (.type "NoneType") = some false)
    (kk_Value_bool : PySem.W.subIn K (.ref C_Value) (.type "bool") = some false)
    (kk_Value_int : PySem.W.subIn K (.ref C_Value) (.type "int") = some false)
    (kk_Value_str : PySem.W.subIn K (.ref C_Value) (.type "str") = some false)
    (kk_Value_list : PySem.W.subIn K (.ref C_Value) (.type "list") = some false)
    (kk_Value_tuple : PySem.W.subIn K (.ref C_Value) (.type "tuple") = some false)
    (kk_Value_dict : PySem.W.subIn K (.ref C_Value) (.type "dict") = some false)
    (st_Value_tuple : PySem.W.subIn K (.ref C_Value) (.type "tuple") = some false)
    (xl_InvalidDivisor : K.lookup C_InvalidDivisor = some (excClassObj nm_InvalidDivisor qn_InvalidDivisor C_InvalidDivisor N_InvalidDivisor bs_InvalidDivisor bm_InvalidDivisor true sn_InvalidDivisor sub_InvalidDivisor ab_InvalidDivisor col_InvalidDivisor dd_InvalidDivisor k0_InvalidDivisor k1_InvalidDivisor k2_InvalidDivisor k3_InvalidDivisor k5_InvalidDivisor "ValueError.__new__"))
    (xr_InvalidDivisor : PySem.HandSPX.refsVE bm_InvalidDivisor = true)
    (xs_InvalidDivisor : PySem.W.findIn K (.ref C_InvalidDivisor) "__setattr__" = some (some (.builtin "object.__setattr__")))
    (xe_InvalidDivisor : PySem.W.subIn K (.ref C_InvalidDivisor) (.type "BaseException") = some true)
    (xt_InvalidDivisor : PySem.W.typeIn K (.ref C_InvalidDivisor) = some (.type "type"))
    (xk_InvalidDivisor : PySem.W.keepIn K (.ref C_InvalidDivisor) = true)
    (xv_InvalidDivisor : PySem.W.findIn K (.ref C_InvalidDivisor) "value" = some none)
    (xi_InvalidDivisor : PySem.W.findIn K (.ref C_InvalidDivisor) "__init__" = some (some (.ref f_RunError_UinitU)))
    (xl_InvalidName : K.lookup C_InvalidName = some (excClassObj nm_InvalidName qn_InvalidName C_InvalidName N_InvalidName bs_InvalidName bm_InvalidName true sn_InvalidName sub_InvalidName ab_InvalidName col_InvalidName dd_InvalidName k0_InvalidName k1_InvalidName k2_InvalidName k3_InvalidName k5_InvalidName "ValueError.__new__"))
    (xr_InvalidName : PySem.HandSPX.refsVE bm_InvalidName = true)
    (xs_InvalidName : PySem.W.findIn K (.ref C_InvalidName) "__setattr__" = some (some (.builtin "object.__setattr__")))
    (xe_InvalidName : PySem.W.subIn K (.ref C_InvalidName) (.type "BaseException") = some true)
    (xt_InvalidName : PySem.W.typeIn K (.ref C_InvalidName) = some (.type "type"))
    (xk_InvalidName : PySem.W.keepIn K (.ref C_InvalidName) = true)
    (xv_InvalidName : PySem.W.findIn K (.ref C_InvalidName) "value" = some none)
    (xi_InvalidName : PySem.W.findIn K (.ref C_InvalidName) "__init__" = some (some (.ref f_RunError_UinitU)))
    (k_LETTERS : PySem.W.nsIn K mainGlobals "LETTERS" = some (some v_LETTERS))
    (kv_LETTERS : v_LETTERS = .str "abcdefghijklmnopqrstuvwxyz" t_LETTERS)
    (no_all : PySem.W.nsIn K mainGlobals "all" = some none)
    (no_len : PySem.W.nsIn K mainGlobals "len" = some none)
    (no_isinstance : PySem.W.nsIn K mainGlobals "isinstance" = some none)
    (no_int : PySem.W.nsIn K mainGlobals "int" = some none)
    (no_abs : PySem.W.nsIn K mainGlobals "abs" = some none)
    (no_range : PySem.W.nsIn K mainGlobals "range" = some none)
    (no_sum : PySem.W.nsIn K mainGlobals "sum" = some none)
    (no_tuple : PySem.W.nsIn K mainGlobals "tuple" = some none)
    (no_enumerate : PySem.W.nsIn K mainGlobals "enumerate" = some none)
    (no_repr : PySem.W.nsIn K mainGlobals "repr" = some none)
    (no_max : PySem.W.nsIn K mainGlobals "max" = some none)
    (no_min : PySem.W.nsIn K mainGlobals "min" = some none)
    (dn_Value_RunError : C_Value ≠ C_RunError)
    (dn_Value_InvalidName : C_Value ≠ C_InvalidName)
    (dn_Value_UnknownName : C_Value ≠ C_UnknownName)
    (dn_Value_InvalidDivisor : C_Value ≠ C_InvalidDivisor)
    (dn_RunError_InvalidName : C_RunError ≠ C_InvalidName)
    (dn_RunError_UnknownName : C_RunError ≠ C_UnknownName)
    (dn_RunError_InvalidDivisor : C_RunError ≠ C_InvalidDivisor)
    (dn_InvalidName_UnknownName : C_InvalidName ≠ C_UnknownName)
    (dn_InvalidName_InvalidDivisor : C_InvalidName ≠ C_InvalidDivisor)
    (dn_UnknownName_InvalidDivisor : C_UnknownName ≠ C_InvalidDivisor)
    : ∃ a : Ad, Ctx K mg a ∧ ClOk a.c ∧ a.f_law = f_law ∧ (∀ (s : Shared) (v : Value), BindsTo s a.d_law ⟨[v], []⟩ [("script", v)]) := by
  refine ⟨{ c := ⟨C_Value, C_RunError, C_InvalidName, C_UnknownName, C_InvalidDivisor⟩, f_RunError_UinitU := f_RunError_UinitU, d_RunError_UinitU := PySem.W.fnOf "__init__" "RunError.__init__" (defArgs s_RunError_UinitU) (defBody s_RunError_UinitU) (defScope s_RunError_UinitU) .none kV_RunError_UinitU dc_RunError_UinitU pm_RunError_UinitU an_RunError_UinitU cd_RunError_UinitU ct_RunError_UinitU, f_is_name := f_is_name, d_is_name := PySem.W.fnOf "is_name" "is_name" (defArgs s_is_name) (defBody s_is_name) (defScope s_is_name) .none kV_is_name dc_is_name pm_is_name an_is_name cd_is_name ct_is_name, f_check_name := f_check_name, d_check_name := PySem.W.fnOf "check_name" "check_name" (defArgs s_check_name) (defBody s_check_name) (defScope s_check_name) .none kV_check_name dc_check_name pm_check_name an_check_name cd_check_name ct_check_name, f_check_divisor := f_check_divisor, d_check_divisor := PySem.W.fnOf "check_divisor" "check_divisor" (defArgs s_check_divisor) (defBody s_check_divisor) (defScope s_check_divisor) .none kV_check_divisor dc_check_divisor pm_check_divisor an_check_divisor cd_check_divisor ct_check_divisor, f_named := f_named, d_named := PySem.W.fnOf "named" "named" (defArgs s_named) (defBody s_named) (defScope s_named) .none kV_named dc_named pm_named an_named cd_named ct_named, f_now := f_now, d_now := PySem.W.fnOf "now" "now" (defArgs s_now) (defBody s_now) (defScope s_now) .none kV_now dc_now pm_now an_now cd_now ct_now, f_passed := f_passed, d_passed := PySem.W.fnOf "passed" "passed" (defArgs s_passed) (defBody s_passed) (defScope s_passed) .none kV_passed dc_passed pm_passed an_passed cd_passed ct_passed, f_number := f_number, d_number := PySem.W.fnOf "number" "number" (defArgs s_number) (defBody s_number) (defScope s_number) .none kV_number dc_number pm_number an_number cd_number ct_number, f_value_of := f_value_of, d_value_of := PySem.W.fnOf "value_of" "value_of" (defArgs s_value_of) (defBody s_value_of) (defScope s_value_of) .none kV_value_of dc_value_of pm_value_of an_value_of cd_value_of ct_value_of, f_Value_UinitU := f_Value_UinitU, d_Value_UinitU := PySem.W.fnOf "__init__" "Value.__init__" (defArgs s_Value_UinitU) (defBody s_Value_UinitU) (defScope s_Value_UinitU) .none kV_Value_UinitU dc_Value_UinitU pm_Value_UinitU an_Value_UinitU cd_Value_UinitU ct_Value_UinitU, f_Value_UaddU := f_Value_UaddU, d_Value_UaddU := PySem.W.fnOf "__add__" "Value.__add__" (defArgs s_Value_UaddU) (defBody s_Value_UaddU) (defScope s_Value_UaddU) .none kV_Value_UaddU dc_Value_UaddU pm_Value_UaddU an_Value_UaddU cd_Value_UaddU ct_Value_UaddU, f_Value_UraddU := f_Value_UraddU, d_Value_UraddU := PySem.W.fnOf "__radd__" "Value.__radd__" (defArgs s_Value_UraddU) (defBody s_Value_UraddU) (defScope s_Value_UraddU) .none kV_Value_UraddU dc_Value_UraddU pm_Value_UraddU an_Value_UraddU cd_Value_UraddU ct_Value_UraddU, f_Value_UsubU := f_Value_UsubU, d_Value_UsubU := PySem.W.fnOf "__sub__" "Value.__sub__" (defArgs s_Value_UsubU) (defBody s_Value_UsubU) (defScope s_Value_UsubU) .none kV_Value_UsubU dc_Value_UsubU pm_Value_UsubU an_Value_UsubU cd_Value_UsubU ct_Value_UsubU, f_Value_UrsubU := f_Value_UrsubU, d_Value_UrsubU := PySem.W.fnOf "__rsub__" "Value.__rsub__" (defArgs s_Value_UrsubU) (defBody s_Value_UrsubU) (defScope s_Value_UrsubU) .none kV_Value_UrsubU dc_Value_UrsubU pm_Value_UrsubU an_Value_UrsubU cd_Value_UrsubU ct_Value_UrsubU, f_Value_UmulU := f_Value_UmulU, d_Value_UmulU := PySem.W.fnOf "__mul__" "Value.__mul__" (defArgs s_Value_UmulU) (defBody s_Value_UmulU) (defScope s_Value_UmulU) .none kV_Value_UmulU dc_Value_UmulU pm_Value_UmulU an_Value_UmulU cd_Value_UmulU ct_Value_UmulU, f_Value_UrmulU := f_Value_UrmulU, d_Value_UrmulU := PySem.W.fnOf "__rmul__" "Value.__rmul__" (defArgs s_Value_UrmulU) (defBody s_Value_UrmulU) (defScope s_Value_UrmulU) .none kV_Value_UrmulU dc_Value_UrmulU pm_Value_UrmulU an_Value_UrmulU cd_Value_UrmulU ct_Value_UrmulU, f_Value_UfloordivU := f_Value_UfloordivU, d_Value_UfloordivU := PySem.W.fnOf "__floordiv__" "Value.__floordiv__" (defArgs s_Value_UfloordivU) (defBody s_Value_UfloordivU) (defScope s_Value_UfloordivU) .none kV_Value_UfloordivU dc_Value_UfloordivU pm_Value_UfloordivU an_Value_UfloordivU cd_Value_UfloordivU ct_Value_UfloordivU, f_Value_UandU := f_Value_UandU, d_Value_UandU := PySem.W.fnOf "__and__" "Value.__and__" (defArgs s_Value_UandU) (defBody s_Value_UandU) (defScope s_Value_UandU) .none kV_Value_UandU dc_Value_UandU pm_Value_UandU an_Value_UandU cd_Value_UandU ct_Value_UandU, f_Value_UrandU := f_Value_UrandU, d_Value_UrandU := PySem.W.fnOf "__rand__" "Value.__rand__" (defArgs s_Value_UrandU) (defBody s_Value_UrandU) (defScope s_Value_UrandU) .none kV_Value_UrandU dc_Value_UrandU pm_Value_UrandU an_Value_UrandU cd_Value_UrandU ct_Value_UrandU, f_Value_UorU := f_Value_UorU, d_Value_UorU := PySem.W.fnOf "__or__" "Value.__or__" (defArgs s_Value_UorU) (defBody s_Value_UorU) (defScope s_Value_UorU) .none kV_Value_UorU dc_Value_UorU pm_Value_UorU an_Value_UorU cd_Value_UorU ct_Value_UorU, f_Value_UrorU := f_Value_UrorU, d_Value_UrorU := PySem.W.fnOf "__ror__" "Value.__ror__" (defArgs s_Value_UrorU) (defBody s_Value_UrorU) (defScope s_Value_UrorU) .none kV_Value_UrorU dc_Value_UrorU pm_Value_UrorU an_Value_UrorU cd_Value_UrorU ct_Value_UrorU, f_Value_UinvertU := f_Value_UinvertU, d_Value_UinvertU := PySem.W.fnOf "__invert__" "Value.__invert__" (defArgs s_Value_UinvertU) (defBody s_Value_UinvertU) (defScope s_Value_UinvertU) .none kV_Value_UinvertU dc_Value_UinvertU pm_Value_UinvertU an_Value_UinvertU cd_Value_UinvertU ct_Value_UinvertU, f_Value_UeqU := f_Value_UeqU, d_Value_UeqU := PySem.W.fnOf "__eq__" "Value.__eq__" (defArgs s_Value_UeqU) (defBody s_Value_UeqU) (defScope s_Value_UeqU) .none kV_Value_UeqU dc_Value_UeqU pm_Value_UeqU an_Value_UeqU cd_Value_UeqU ct_Value_UeqU, f_Value_rest := f_Value_rest, d_Value_rest := PySem.W.fnOf "rest" "Value.rest" (defArgs s_Value_rest) (defBody s_Value_rest) (defScope s_Value_rest) .none kV_Value_rest dc_Value_rest pm_Value_rest an_Value_rest cd_Value_rest ct_Value_rest, f_Value_same := f_Value_same, d_Value_same := PySem.W.fnOf "same" "Value.same" (defArgs s_Value_same) (defBody s_Value_same) (defScope s_Value_same) .none kV_Value_same dc_Value_same pm_Value_same an_Value_same cd_Value_same ct_Value_same, f_Value_less := f_Value_less, d_Value_less := PySem.W.fnOf "less" "Value.less" (defArgs s_Value_less) (defBody s_Value_less) (defScope s_Value_less) .none kV_Value_less dc_Value_less pm_Value_less an_Value_less cd_Value_less ct_Value_less, f_law_well := f_law_well, d_law_well := PySem.W.fnOf "_law_well" "_law_well" (defArgs s_law_well) (defBody s_law_well) (defScope s_law_well) .none kV_law_well dc_law_well pm_law_well an_law_well cd_law_well ct_law_well, f_law_take := f_law_take, d_law_take := PySem.W.fnOf "_law_take" "_law_take" (defArgs s_law_take) (defBody s_law_take) (defScope s_law_take) .none kV_law_take dc_law_take pm_law_take an_law_take cd_law_take ct_law_take, f_law_cells := f_law_cells, d_law_cells := PySem.W.fnOf "_law_cells" "_law_cells" (defArgs s_law_cells) (defBody s_law_cells) (defScope s_law_cells) .none kV_law_cells dc_law_cells pm_law_cells an_law_cells cd_law_cells ct_law_cells, f_law_integer := f_law_integer, d_law_integer := PySem.W.fnOf "_law_integer" "_law_integer" (defArgs s_law_integer) (defBody s_law_integer) (defScope s_law_integer) .none kV_law_integer dc_law_integer pm_law_integer an_law_integer cd_law_integer ct_law_integer, f_law_recipe := f_law_recipe, d_law_recipe := PySem.W.fnOf "_law_recipe" "_law_recipe" (defArgs s_law_recipe) (defBody s_law_recipe) (defScope s_law_recipe) .none kV_law_recipe dc_law_recipe pm_law_recipe an_law_recipe cd_law_recipe ct_law_recipe, f_law_signs := f_law_signs, d_law_signs := PySem.W.fnOf "_law_signs" "_law_signs" (defArgs s_law_signs) (defBody s_law_signs) (defScope s_law_signs) .none kV_law_signs dc_law_signs pm_law_signs an_law_signs cd_law_signs ct_law_signs, f_law_joined := f_law_joined, d_law_joined := PySem.W.fnOf "_law_joined" "_law_joined" (defArgs s_law_joined) (defBody s_law_joined) (defScope s_law_joined) .none kV_law_joined dc_law_joined pm_law_joined an_law_joined cd_law_joined ct_law_joined, f_law_side := f_law_side, d_law_side := PySem.W.fnOf "_law_side" "_law_side" (defArgs s_law_side) (defBody s_law_side) (defScope s_law_side) .none kV_law_side dc_law_side pm_law_side an_law_side cd_law_side ct_law_side, f_law_built := f_law_built, d_law_built := PySem.W.fnOf "_law_built" "_law_built" (defArgs s_law_built) (defBody s_law_built) (defScope s_law_built) .none kV_law_built dc_law_built pm_law_built an_law_built cd_law_built ct_law_built, f_law_leaf := f_law_leaf, d_law_leaf := PySem.W.fnOf "_law_leaf" "_law_leaf" (defArgs s_law_leaf) (defBody s_law_leaf) (defScope s_law_leaf) .none kV_law_leaf dc_law_leaf pm_law_leaf an_law_leaf cd_law_leaf ct_law_leaf, f_law_changed := f_law_changed, d_law_changed := PySem.W.fnOf "_law_changed" "_law_changed" (defArgs s_law_changed) (defBody s_law_changed) (defScope s_law_changed) .none kV_law_changed dc_law_changed pm_law_changed an_law_changed cd_law_changed ct_law_changed, f_law_both := f_law_both, d_law_both := PySem.W.fnOf "_law_both" "_law_both" (defArgs s_law_both) (defBody s_law_both) (defScope s_law_both) .none kV_law_both dc_law_both pm_law_both an_law_both cd_law_both ct_law_both, f_law_fits := f_law_fits, d_law_fits := PySem.W.fnOf "_law_fits" "_law_fits" (defArgs s_law_fits) (defBody s_law_fits) (defScope s_law_fits) .none kV_law_fits dc_law_fits pm_law_fits an_law_fits cd_law_fits ct_law_fits, f_law := f_law, d_law := PySem.W.fnOf "law" "law" (defArgs s_law) (defBody s_law) (defScope s_law) .none kV_law dc_law pm_law an_law cd_law ct_law, v_LETTERS := v_LETTERS }, ?_, ?_, rfl, fun s v => .of_eq rfl⟩
  have F_RunError_UinitU := fun_mk (st := s_RunError_UinitU) l_RunError_UinitU c_RunError_UinitU k_RunError_UinitU
  have b_RunError_UinitU := F_RunError_UinitU.binds (ps := ["self", "value"]) fun _ _ _ _ _ _ us hl => match us, hl with | [_, _], _ => rfl
  have F_is_name := fun_mk (st := s_is_name) l_is_name c_is_name k_is_name
  have b_is_name := F_is_name.binds (ps := ["name"]) fun _ _ _ _ _ _ us hl => match us, hl with | [_], _ => rfl
  have F_check_name := fun_mk (st := s_check_name) l_check_name c_check_name k_check_name
  have b_check_name := F_check_name.binds (ps := ["name"]) fun _ _ _ _ _ _ us hl => match us, hl with | [_], _ => rfl
  have F_check_divisor := fun_mk (st := s_check_divisor) l_check_divisor c_check_divisor k_check_divisor
  have b_check_divisor := F_check_divisor.binds (ps := ["number"]) fun _ _ _ _ _ _ us hl => match us, hl with | [_], _ => rfl
  have F_named := fun_mk (st := s_named) l_named c_named k_named
  have b_named := F_named.binds (ps := ["name"]) fun _ _ _ _ _ _ us hl => match us, hl with | [_], _ => rfl
  have F_now := fun_mk (st := s_now) l_now c_now k_now
  have b_now := F_now.binds (ps := ["name"]) fun _ _ _ _ _ _ us hl => match us, hl with | [_], _ => rfl
  have F_passed := fun_mk (st := s_passed) l_passed c_passed k_passed
  have b_passed := F_passed.binds (ps := []) fun _ _ _ _ _ _ us hl => match us, hl with | [], _ => rfl
  have F_number := fun_mk (st := s_number) l_number c_number k_number
  have b_number := F_number.binds (ps := ["n"]) fun _ _ _ _ _ _ us hl => match us, hl with | [_], _ => rfl
  have F_value_of := fun_mk (st := s_value_of) l_value_of c_value_of k_value_of
  have b_value_of := F_value_of.binds (ps := ["part"]) fun _ _ _ _ _ _ us hl => match us, hl with | [_], _ => rfl
  have F_Value_UinitU := fun_mk (st := s_Value_UinitU) l_Value_UinitU c_Value_UinitU k_Value_UinitU
  have b_Value_UinitU := F_Value_UinitU.binds (ps := ["self", "sign", "first", "second"]) fun _ _ _ _ _ _ us hl => match us, hl with | [_, _, _, _], _ => rfl
  have F_Value_UaddU := fun_mk (st := s_Value_UaddU) l_Value_UaddU c_Value_UaddU k_Value_UaddU
  have b_Value_UaddU := F_Value_UaddU.binds (ps := ["self", "other"]) fun _ _ _ _ _ _ us hl => match us, hl with | [_, _], _ => rfl
  have F_Value_UraddU := fun_mk (st := s_Value_UraddU) l_Value_UraddU c_Value_UraddU k_Value_UraddU
  have b_Value_UraddU := F_Value_UraddU.binds (ps := ["self", "other"]) fun _ _ _ _ _ _ us hl => match us, hl with | [_, _], _ => rfl
  have F_Value_UsubU := fun_mk (st := s_Value_UsubU) l_Value_UsubU c_Value_UsubU k_Value_UsubU
  have b_Value_UsubU := F_Value_UsubU.binds (ps := ["self", "other"]) fun _ _ _ _ _ _ us hl => match us, hl with | [_, _], _ => rfl
  have F_Value_UrsubU := fun_mk (st := s_Value_UrsubU) l_Value_UrsubU c_Value_UrsubU k_Value_UrsubU
  have b_Value_UrsubU := F_Value_UrsubU.binds (ps := ["self", "other"]) fun _ _ _ _ _ _ us hl => match us, hl with | [_, _], _ => rfl
  have F_Value_UmulU := fun_mk (st := s_Value_UmulU) l_Value_UmulU c_Value_UmulU k_Value_UmulU
  have b_Value_UmulU := F_Value_UmulU.binds (ps := ["self", "other"]) fun _ _ _ _ _ _ us hl => match us, hl with | [_, _], _ => rfl
  have F_Value_UrmulU := fun_mk (st := s_Value_UrmulU) l_Value_UrmulU c_Value_UrmulU k_Value_UrmulU
  have b_Value_UrmulU := F_Value_UrmulU.binds (ps := ["self", "other"]) fun _ _ _ _ _ _ us hl => match us, hl with | [_, _], _ => rfl
  have F_Value_UfloordivU := fun_mk (st := s_Value_UfloordivU) l_Value_UfloordivU c_Value_UfloordivU k_Value_UfloordivU
  have b_Value_UfloordivU := F_Value_UfloordivU.binds (ps := ["self", "other"]) fun _ _ _ _ _ _ us hl => match us, hl with | [_, _], _ => rfl
  have F_Value_UandU := fun_mk (st := s_Value_UandU) l_Value_UandU c_Value_UandU k_Value_UandU
  have b_Value_UandU := F_Value_UandU.binds (ps := ["self", "other"]) fun _ _ _ _ _ _ us hl => match us, hl with | [_, _], _ => rfl
  have F_Value_UrandU := fun_mk (st := s_Value_UrandU) l_Value_UrandU c_Value_UrandU k_Value_UrandU
  have b_Value_UrandU := F_Value_UrandU.binds (ps := ["self", "other"]) fun _ _ _ _ _ _ us hl => match us, hl with | [_, _], _ => rfl
  have F_Value_UorU := fun_mk (st := s_Value_UorU) l_Value_UorU c_Value_UorU k_Value_UorU
  have b_Value_UorU := F_Value_UorU.binds (ps := ["self", "other"]) fun _ _ _ _ _ _ us hl => match us, hl with | [_, _], _ => rfl
  have F_Value_UrorU := fun_mk (st := s_Value_UrorU) l_Value_UrorU c_Value_UrorU k_Value_UrorU
  have b_Value_UrorU := F_Value_UrorU.binds (ps := ["self", "other"]) fun _ _ _ _ _ _ us hl => match us, hl with | [_, _], _ => rfl
  have F_Value_UinvertU := fun_mk (st := s_Value_UinvertU) l_Value_UinvertU c_Value_UinvertU k_Value_UinvertU
  have b_Value_UinvertU := F_Value_UinvertU.binds (ps := ["self"]) fun _ _ _ _ _ _ us hl => match us, hl with | [_], _ => rfl
  have F_Value_UeqU := fun_mk (st := s_Value_UeqU) l_Value_UeqU c_Value_UeqU k_Value_UeqU
  have b_Value_UeqU := F_Value_UeqU.binds (ps := ["self", "other"]) fun _ _ _ _ _ _ us hl => match us, hl with | [_, _], _ => rfl
  have F_Value_rest := fun_mk (st := s_Value_rest) l_Value_rest c_Value_rest k_Value_rest
  have b_Value_rest := F_Value_rest.binds (ps := ["self", "n"]) fun _ _ _ _ _ _ us hl => match us, hl with | [_, _], _ => rfl
  have F_Value_same := fun_mk (st := s_Value_same) l_Value_same c_Value_same k_Value_same
  have b_Value_same := F_Value_same.binds (ps := ["self", "other"]) fun _ _ _ _ _ _ us hl => match us, hl with | [_, _], _ => rfl
  have F_Value_less := fun_mk (st := s_Value_less) l_Value_less c_Value_less k_Value_less
  have b_Value_less := F_Value_less.binds (ps := ["self", "other"]) fun _ _ _ _ _ _ us hl => match us, hl with | [_, _], _ => rfl
  have F_law_well := fun_mk (st := s_law_well) l_law_well c_law_well k_law_well
  have b_law_well := F_law_well.binds (ps := ["script", "place"]) fun _ _ _ _ _ _ us hl => match us, hl with | [_, _], _ => rfl
  have F_law_take := fun_mk (st := s_law_take) l_law_take c_law_take k_law_take
  have b_law_take := F_law_take.binds (ps := ["well", "many"]) fun _ _ _ _ _ _ us hl => match us, hl with | [_, _], _ => rfl
  have F_law_cells := fun_mk (st := s_law_cells) l_law_cells c_law_cells k_law_cells
  have b_law_cells := F_law_cells.binds (ps := ["well", "many"]) fun _ _ _ _ _ _ us hl => match us, hl with | [_, _], _ => rfl
  have F_law_integer := fun_mk (st := s_law_integer) l_law_integer c_law_integer k_law_integer
  have b_law_integer := F_law_integer.binds (ps := ["well"]) fun _ _ _ _ _ _ us hl => match us, hl with | [_], _ => rfl
  have F_law_recipe := fun_mk (st := s_law_recipe) l_law_recipe c_law_recipe k_law_recipe
  have b_law_recipe := F_law_recipe.binds (ps := ["well", "cells_here", "most"]) fun _ _ _ _ _ _ us hl => match us, hl with | [_, _, _], _ => rfl
  have F_law_signs := fun_mk (st := s_law_signs) l_law_signs c_law_signs k_law_signs
  have b_law_signs := F_law_signs.binds (ps := ["recipe"]) fun _ _ _ _ _ _ us hl => match us, hl with | [_], _ => rfl
  have F_law_joined := fun_mk (st := s_law_joined) l_law_joined c_law_joined k_law_joined
  have b_law_joined := F_law_joined.binds (ps := ["sign", "one", "two"]) fun _ _ _ _ _ _ us hl => match us, hl with | [_, _, _], _ => rfl
  have F_law_side := fun_mk (st := s_law_side) l_law_side c_law_side k_law_side
  have b_law_side := F_law_side.binds (ps := ["recipe", "style"]) fun _ _ _ _ _ _ us hl => match us, hl with | [_, _], _ => rfl
  have F_law_built := fun_mk (st := s_law_built) l_law_built c_law_built k_law_built
  have b_law_built := F_law_built.binds (ps := ["recipe", "style"]) fun _ _ _ _ _ _ us hl => match us, hl with | [_, _], _ => rfl
  have F_law_leaf := fun_mk (st := s_law_leaf) l_law_leaf c_law_leaf k_law_leaf
  have b_law_leaf := F_law_leaf.binds (ps := ["well", "recipe", "cells_here"]) fun _ _ _ _ _ _ us hl => match us, hl with | [_, _, _], _ => rfl
  have F_law_changed := fun_mk (st := s_law_changed) l_law_changed c_law_changed k_law_changed
  have b_law_changed := F_law_changed.binds (ps := ["well", "recipe", "cells_here"]) fun _ _ _ _ _ _ us hl => match us, hl with | [_, _, _], _ => rfl
  have F_law_both := fun_mk (st := s_law_both) l_law_both c_law_both k_law_both
  have b_law_both := F_law_both.binds (ps := ["one", "two"]) fun _ _ _ _ _ _ us hl => match us, hl with | [_, _], _ => rfl
  have F_law_fits := fun_mk (st := s_law_fits) l_law_fits c_law_fits k_law_fits
  have b_law_fits := F_law_fits.binds (ps := ["well"]) fun _ _ _ _ _ _ us hl => match us, hl with | [_], _ => rfl
  have F_law := fun_mk (st := s_law) l_law c_law k_law
  have b_law := F_law.binds (ps := ["script"]) fun _ _ _ _ _ _ us hl => match us, hl with | [_], _ => rfl
  have cl_Value : Cls K C_Value := ⟨pg_Value, hd_Value, po_Value, sa_Value⟩
  have icc_Value : IC K C_Value := ⟨cl_Value, ic_Value, ig, it, im_Value⟩
  · exact {
      F_RunError_UinitU := F_RunError_UinitU
      e_init := tI
      e_b := b_RunError_UinitU
      F_is_name := F_is_name
      f_is_name := ⟨PySem.W.mg_of X G a_is_name, k_is_name, b_is_name⟩
      F_check_name := F_check_name
      f_check_name := ⟨PySem.W.mg_of X G a_check_name, k_check_name, b_check_name⟩
      F_check_divisor := F_check_divisor
      f_check_divisor := ⟨PySem.W.mg_of X G a_check_divisor, k_check_divisor, b_check_divisor⟩
      F_named := F_named
      f_named := ⟨PySem.W.mg_of X G a_named, k_named, b_named⟩
      F_now := F_now
      f_now := ⟨PySem.W.mg_of X G a_now, k_now, b_now⟩
      F_passed := F_passed
      f_passed := ⟨PySem.W.mg_of X G a_passed, k_passed, b_passed⟩
      F_number := F_number
      f_number := ⟨PySem.W.mg_of X G a_number, k_number, b_number⟩
      F_value_of := F_value_of
      f_value_of := ⟨PySem.W.mg_of X G a_value_of, k_value_of, b_value_of⟩
      F_Value_UinitU := F_Value_UinitU
      F_Value_UaddU := F_Value_UaddU
      m_Value_UaddU := ⟨⟨a_Value_UaddU, i_Value_UaddU, k_Value_UaddU⟩, b_Value_UaddU⟩
      F_Value_UraddU := F_Value_UraddU
      m_Value_UraddU := ⟨⟨a_Value_UraddU, i_Value_UraddU, k_Value_UraddU⟩, b_Value_UraddU⟩
      F_Value_UsubU := F_Value_UsubU
      m_Value_UsubU := ⟨⟨a_Value_UsubU, i_Value_UsubU, k_Value_UsubU⟩, b_Value_UsubU⟩
      F_Value_UrsubU := F_Value_UrsubU
      m_Value_UrsubU := ⟨⟨a_Value_UrsubU, i_Value_UrsubU, k_Value_UrsubU⟩, b_Value_UrsubU⟩
      F_Value_UmulU := F_Value_UmulU
      m_Value_UmulU := ⟨⟨a_Value_UmulU, i_Value_UmulU, k_Value_UmulU⟩, b_Value_UmulU⟩
      F_Value_UrmulU := F_Value_UrmulU
      m_Value_UrmulU := ⟨⟨a_Value_UrmulU, i_Value_UrmulU, k_Value_UrmulU⟩, b_Value_UrmulU⟩
      F_Value_UfloordivU := F_Value_UfloordivU
      m_Value_UfloordivU := ⟨⟨a_Value_UfloordivU, i_Value_UfloordivU, k_Value_UfloordivU⟩, b_Value_UfloordivU⟩
      F_Value_UandU := F_Value_UandU
      m_Value_UandU := ⟨⟨a_Value_UandU, i_Value_UandU, k_Value_UandU⟩, b_Value_UandU⟩
      F_Value_UrandU := F_Value_UrandU
      m_Value_UrandU := ⟨⟨a_Value_UrandU, i_Value_UrandU, k_Value_UrandU⟩, b_Value_UrandU⟩
      F_Value_UorU := F_Value_UorU
      m_Value_UorU := ⟨⟨a_Value_UorU, i_Value_UorU, k_Value_UorU⟩, b_Value_UorU⟩
      F_Value_UrorU := F_Value_UrorU
      m_Value_UrorU := ⟨⟨a_Value_UrorU, i_Value_UrorU, k_Value_UrorU⟩, b_Value_UrorU⟩
      F_Value_UinvertU := F_Value_UinvertU
      m_Value_UinvertU := ⟨⟨a_Value_UinvertU, i_Value_UinvertU, k_Value_UinvertU⟩, b_Value_UinvertU⟩
      F_Value_UeqU := F_Value_UeqU
      m_Value_UeqU := ⟨⟨a_Value_UeqU, i_Value_UeqU, k_Value_UeqU⟩, b_Value_UeqU⟩
      F_Value_rest := F_Value_rest
      m_Value_rest := ⟨⟨a_Value_rest, i_Value_rest, k_Value_rest⟩, b_Value_rest⟩
      F_Value_same := F_Value_same
      m_Value_same := ⟨⟨a_Value_same, i_Value_same, k_Value_same⟩, b_Value_same⟩
      F_Value_less := F_Value_less
      m_Value_less := ⟨⟨a_Value_less, i_Value_less, k_Value_less⟩, b_Value_less⟩
      F_law_well := F_law_well
      f_law_well := ⟨PySem.W.mg_of X G a_law_well, k_law_well, b_law_well⟩
      F_law_take := F_law_take
      f_law_take := ⟨PySem.W.mg_of X G a_law_take, k_law_take, b_law_take⟩
      F_law_cells := F_law_cells
      f_law_cells := ⟨PySem.W.mg_of X G a_law_cells, k_law_cells, b_law_cells⟩
      F_law_integer := F_law_integer
      f_law_integer := ⟨PySem.W.mg_of X G a_law_integer, k_law_integer, b_law_integer⟩
      F_law_recipe := F_law_recipe
      f_law_recipe := ⟨PySem.W.mg_of X G a_law_recipe, k_law_recipe, b_law_recipe⟩
      F_law_signs := F_law_signs
      f_law_signs := ⟨PySem.W.mg_of X G a_law_signs, k_law_signs, b_law_signs⟩
      F_law_joined := F_law_joined
      f_law_joined := ⟨PySem.W.mg_of X G a_law_joined, k_law_joined, b_law_joined⟩
      F_law_side := F_law_side
      f_law_side := ⟨PySem.W.mg_of X G a_law_side, k_law_side, b_law_side⟩
      F_law_built := F_law_built
      f_law_built := ⟨PySem.W.mg_of X G a_law_built, k_law_built, b_law_built⟩
      F_law_leaf := F_law_leaf
      f_law_leaf := ⟨PySem.W.mg_of X G a_law_leaf, k_law_leaf, b_law_leaf⟩
      F_law_changed := F_law_changed
      f_law_changed := ⟨PySem.W.mg_of X G a_law_changed, k_law_changed, b_law_changed⟩
      F_law_both := F_law_both
      f_law_both := ⟨PySem.W.mg_of X G a_law_both, k_law_both, b_law_both⟩
      F_law_fits := F_law_fits
      f_law_fits := ⟨PySem.W.mg_of X G a_law_fits, k_law_fits, b_law_fits⟩
      F_law := F_law
      f_law := ⟨PySem.W.mg_of X G a_law, k_law, b_law⟩
      e_InvalidDivisor := ⟨PySem.W.mg_of X G a_InvalidDivisor, ⟨⟨_, _, _, _, _, _, _, _, _, _, _, _, _, _, _, xl_InvalidDivisor, xr_InvalidDivisor⟩, xs_InvalidDivisor, xe_InvalidDivisor, xt_InvalidDivisor, xk_InvalidDivisor⟩, xv_InvalidDivisor, xi_InvalidDivisor⟩
      e_InvalidName := ⟨PySem.W.mg_of X G a_InvalidName, ⟨⟨_, _, _, _, _, _, _, _, _, _, _, _, _, _, _, xl_InvalidName, xr_InvalidName⟩, xs_InvalidName, xe_InvalidName, xt_InvalidName, xk_InvalidName⟩, xv_InvalidName, xi_InvalidName⟩
      c_Value := ⟨cl_Value, PySem.W.mg_of X G a_Value, ⟨mk_Value, a_Value_UinitU, i_Value_UinitU, kc_Value⟩, b_Value_UinitU⟩
      n_Value_sign := n_Value_sign
      n_Value_first := n_Value_first
      n_Value_second := n_Value_second
      o_Value_mul := ⟨⟨sf, a_Value_UmulU, ⟨_, a_Value_UrmulU, .inr ⟨_, rfl⟩⟩, i_Value_UmulU, ⟨_, oli_mul⟩, ⟨_, ori_mul⟩, ni⟩, a_Value_UrmulU, i_Value_UrmulU, no⟩
      o_Value_add := ⟨⟨sf, a_Value_UaddU, ⟨_, a_Value_UraddU, .inr ⟨_, rfl⟩⟩, i_Value_UaddU, ⟨_, oli_add⟩, ⟨_, ori_add⟩, ni⟩, a_Value_UraddU, i_Value_UraddU, no⟩
      o_Value_sub := ⟨⟨sf, a_Value_UsubU, ⟨_, a_Value_UrsubU, .inr ⟨_, rfl⟩⟩, i_Value_UsubU, ⟨_, oli_sub⟩, ⟨_, ori_sub⟩, ni⟩, a_Value_UrsubU, i_Value_UrsubU, no⟩
      o_Value_and := ⟨⟨sf, a_Value_UandU, ⟨_, a_Value_UrandU, .inr ⟨_, rfl⟩⟩, i_Value_UandU, ⟨_, oli_and⟩, ⟨_, ori_and⟩, ni⟩, a_Value_UrandU, i_Value_UrandU, no⟩
      o_Value_or := ⟨⟨sf, a_Value_UorU, ⟨_, a_Value_UrorU, .inr ⟨_, rfl⟩⟩, i_Value_UorU, ⟨_, oli_or⟩, ⟨_, ori_or⟩, ni⟩, a_Value_UrorU, i_Value_UrorU, no⟩
      o_Value_floordiv := ⟨sf, a_Value_UfloordivU, ⟨_, orr_floordiv, .inl rfl⟩, i_Value_UfloordivU, ⟨_, oli_floordiv⟩, ⟨_, ori_floordiv⟩, ni⟩
      i_Value_invert := a_Value_UinvertU
      i_Value_invertF := i_Value_UinvertU
      eq_Value := ⟨a_Value_UeqU, i_Value_UeqU, b_Value_UeqU, neq_Value, im_Value⟩
      kn_Value := (by simp only [kinds, List.forall_mem_cons, List.not_mem_nil, false_implies, implies_true, and_true]; exact ⟨kk_Value_NoneType, kk_Value_bool, kk_Value_int, kk_Value_str, kk_Value_list, kk_Value_tuple, kk_Value_dict⟩)
      is_Value := isC_mk icc_Value ty_Value (fun _ h => by simp at h)
      it_tuple := isT_tuple (by simp only [List.forall_mem_cons, List.not_mem_nil, false_implies, implies_true, and_true]; exact ⟨icc_Value, st_Value_tuple⟩)
      k_LETTERS := PySem.W.mg_of X G k_LETTERS
      kv_LETTERS := ⟨_, kv_LETTERS⟩
      no_all := PySem.W.mg_none_of X G no_all
      no_len := PySem.W.mg_none_of X G no_len
      no_isinstance := PySem.W.mg_none_of X G no_isinstance
      no_int := PySem.W.mg_none_of X G no_int
      no_abs := PySem.W.mg_none_of X G no_abs
      no_range := PySem.W.mg_none_of X G no_range
      no_sum := PySem.W.mg_none_of X G no_sum
      no_tuple := PySem.W.mg_none_of X G no_tuple
      no_enumerate := PySem.W.mg_none_of X G no_enumerate
      no_repr := PySem.W.mg_none_of X G no_repr
      no_max := PySem.W.mg_none_of X G no_max
      no_min := PySem.W.mg_none_of X G no_min }
  · exact ⟨dn_Value_RunError, dn_Value_InvalidName, dn_Value_UnknownName, dn_Value_InvalidDivisor, dn_RunError_InvalidName, dn_RunError_UnknownName, dn_RunError_InvalidDivisor, dn_InvalidName_UnknownName, dn_InvalidName_InvalidDivisor, dn_UnknownName_InvalidDivisor⟩
theorem mk0 {K : PySem.W.Frag} {h : Heap} {mg : Str → Option Value} (X : K.In h) (G : h.Ns mainGlobals mg) {C_Value C_RunError C_InvalidName C_UnknownName C_InvalidDivisor f_RunError_UinitU f_is_name f_check_name f_check_divisor f_named f_now f_passed f_number f_value_of f_Value_UinitU f_Value_UaddU f_Value_UraddU f_Value_UsubU f_Value_UrsubU f_Value_UmulU f_Value_UrmulU f_Value_UfloordivU f_Value_UandU f_Value_UrandU f_Value_UorU f_Value_UrorU f_Value_UinvertU f_Value_UeqU f_Value_rest f_Value_same f_Value_less f_law_well f_law_take f_law_cells f_law_integer f_law_recipe f_law_signs f_law_joined f_law_side f_law_built f_law_leaf f_law_changed f_law_both f_law_fits f_law N_InvalidDivisor N_InvalidName : Addr} {oc_RunError_UinitU kV_RunError_UinitU dc_RunError_UinitU pm_RunError_UinitU cd_RunError_UinitU ct_RunError_UinitU oc_is_name kV_is_name dc_is_name pm_is_name cd_is_name ct_is_name oc_check_name kV_check_name dc_check_name pm_check_name cd_check_name ct_check_name oc_check_divisor kV_check_divisor dc_check_divisor pm_check_divisor cd_check_divisor ct_check_divisor oc_named kV_named dc_named pm_named cd_named ct_named oc_now kV_now dc_now pm_now cd_now ct_now oc_passed kV_passed dc_passed pm_passed cd_passed ct_passed oc_number kV_number dc_number pm_number cd_number ct_number oc_value_of kV_value_of dc_value_of pm_value_of cd_value_of ct_value_of oc_Value_UinitU kV_Value_UinitU dc_Value_UinitU pm_Value_UinitU cd_Value_UinitU ct_Value_UinitU oc_Value_UaddU kV_Value_UaddU dc_Value_UaddU pm_Value_UaddU cd_Value_UaddU ct_Value_UaddU oc_Value_UraddU kV_Value_UraddU dc_Value_UraddU pm_Value_UraddU cd_Value_UraddU ct_Value_UraddU oc_Value_UsubU kV_Value_UsubU dc_Value_UsubU pm_Value_UsubU cd_Value_UsubU ct_Value_UsubU oc_Value_UrsubU kV_Value_UrsubU dc_Value_UrsubU pm_Value_UrsubU cd_Value_UrsubU ct_Value_UrsubU oc_Value_UmulU kV_Value_UmulU dc_Value_UmulU pm_Value_UmulU cd_Value_UmulU ct_Value_UmulU oc_Value_UrmulU kV_Value_UrmulU dc_Value_UrmulU pm_Value_UrmulU cd_Value_UrmulU ct_Value_UrmulU oc_Value_UfloordivU kV_Value_UfloordivU dc_Value_UfloordivU pm_Value_UfloordivU cd_Value_UfloordivU ct_Value_UfloordivU oc_Value_UandU kV_Value_UandU dc_Value_UandU pm_Value_UandU cd_Value_UandU ct_Value_UandU oc_Value_UrandU kV_Value_UrandU dc_Value_UrandU pm_Value_UrandU cd_Value_UrandU ct_Value_UrandU oc_Value_UorU kV_Value_UorU dc_Value_UorU pm_Value_UorU cd_Value_UorU ct_Value_UorU oc_Value_UrorU kV_Value_UrorU dc_Value_UrorU pm_Value_UrorU cd_Value_UrorU ct_Value_UrorU oc_Value_UinvertU kV_Value_UinvertU dc_Value_UinvertU pm_Value_UinvertU cd_Value_UinvertU ct_Value_UinvertU oc_Value_UeqU kV_Value_UeqU dc_Value_UeqU pm_Value_UeqU cd_Value_UeqU ct_Value_UeqU oc_Value_rest kV_Value_rest dc_Value_rest pm_Value_rest cd_Value_rest ct_Value_rest oc_Value_same kV_Value_same dc_Value_same pm_Value_same cd_Value_same ct_Value_same oc_Value_less kV_Value_less dc_Value_less pm_Value_less cd_Value_less ct_Value_less oc_law_well kV_law_well dc_law_well pm_law_well cd_law_well ct_law_well oc_law_take kV_law_take dc_law_take pm_law_take cd_law_take ct_law_take oc_law_cells kV_law_cells dc_law_cells pm_law_cells cd_law_cells ct_law_cells oc_law_integer kV_law_integer dc_law_integer pm_law_integer cd_law_integer ct_law_integer oc_law_recipe kV_law_recipe dc_law_recipe pm_law_recipe cd_law_recipe ct_law_recipe oc_law_signs kV_law_signs dc_law_signs pm_law_signs cd_law_signs ct_law_signs oc_law_joined kV_law_joined dc_law_joined pm_law_joined cd_law_joined ct_law_joined oc_law_side kV_law_side dc_law_side pm_law_side cd_law_side ct_law_side oc_law_built kV_law_built dc_law_built pm_law_built cd_law_built ct_law_built oc_law_leaf kV_law_leaf dc_law_leaf pm_law_leaf cd_law_leaf ct_law_leaf oc_law_changed kV_law_changed dc_law_changed pm_law_changed cd_law_changed ct_law_changed oc_law_both kV_law_both dc_law_both pm_law_both cd_law_both ct_law_both oc_law_fits kV_law_fits dc_law_fits pm_law_fits cd_law_fits ct_law_fits oc_law kV_law dc_law pm_law cd_law ct_law v_LETTERS : Value} {od_RunError_UinitU an_RunError_UinitU od_is_name an_is_name od_check_name an_check_name od_check_divisor an_check_divisor od_named an_named od_now an_now od_passed an_passed od_number an_number od_value_of an_value_of od_Value_UinitU an_Value_UinitU od_Value_UaddU an_Value_UaddU od_Value_UraddU an_Value_UraddU od_Value_UsubU an_Value_UsubU od_Value_UrsubU an_Value_UrsubU od_Value_UmulU an_Value_UmulU od_Value_UrmulU an_Value_UrmulU od_Value_UfloordivU an_Value_UfloordivU od_Value_UandU an_Value_UandU od_Value_UrandU an_Value_UrandU od_Value_UorU an_Value_UorU od_Value_UrorU an_Value_UrorU od_Value_UinvertU an_Value_UinvertU od_Value_UeqU an_Value_UeqU od_Value_rest an_Value_rest od_Value_same an_Value_same od_Value_less an_Value_less od_law_well an_law_well od_law_take an_law_take od_law_cells an_law_cells od_law_integer an_law_integer od_law_recipe an_law_recipe od_law_signs an_law_signs od_law_joined an_law_joined od_law_side an_law_side od_law_built an_law_built od_law_leaf an_law_leaf od_law_changed an_law_changed od_law_both an_law_both od_law_fits an_law_fits od_law an_law dd_InvalidDivisor dd_InvalidName : Option Addr} {sl_RunError_UinitU sl_is_name sl_check_name sl_check_divisor sl_named sl_now sl_passed sl_number sl_value_of sl_Value_UinitU sl_Value_UaddU sl_Value_UraddU sl_Value_UsubU sl_Value_UrsubU sl_Value_UmulU sl_Value_UrmulU sl_Value_UfloordivU sl_Value_UandU sl_Value_UrandU sl_Value_UorU sl_Value_UrorU sl_Value_UinvertU sl_Value_UeqU sl_Value_rest sl_Value_same sl_Value_less sl_law_well sl_law_take sl_law_cells sl_law_integer sl_law_recipe sl_law_signs sl_law_joined sl_law_side sl_law_built sl_law_leaf sl_law_changed sl_law_both sl_law_fits sl_law : Array (Option Value)} {li_mul ri_mul li_add ri_add li_sub ri_sub li_and ri_and li_or ri_or li_floordiv ri_floordiv k0_InvalidDivisor k1_InvalidDivisor k2_InvalidDivisor k3_InvalidDivisor k5_InvalidDivisor k0_InvalidName k1_InvalidName k2_InvalidName k3_InvalidName k5_InvalidName : Option Value} {nm_InvalidDivisor qn_InvalidDivisor nm_InvalidName qn_InvalidName : Str} {bs_InvalidDivisor bm_InvalidDivisor sub_InvalidDivisor bs_InvalidName bm_InvalidName sub_InvalidName : List Value} {sn_InvalidDivisor sn_InvalidName : List Str} {ab_InvalidDivisor ab_InvalidName : Bool} {col_InvalidDivisor col_InvalidName : Option Bool} {t_LETTERS : Tok}
    (a_Value : PySem.W.nsIn K mainGlobals "Value" = some (some (.ref C_Value)))
    (a_RunError : PySem.W.nsIn K mainGlobals "RunError" = some (some (.ref C_RunError)))
    (a_InvalidName : PySem.W.nsIn K mainGlobals "InvalidName" = some (some (.ref C_InvalidName)))
    (a_UnknownName : PySem.W.nsIn K mainGlobals "UnknownName" = some (some (.ref C_UnknownName)))
    (a_InvalidDivisor : PySem.W.nsIn K mainGlobals "InvalidDivisor" = some (some (.ref C_InvalidDivisor)))
    (a_RunError_UinitU : PySem.W.findIn K (.ref C_RunError) "__init__" = some (some (.ref f_RunError_UinitU)))
    (i_RunError_UinitU : PySem.W.isFn K (.ref f_RunError_UinitU) = true)
    (l_RunError_UinitU : K.lookup f_RunError_UinitU = some ⟨oc_RunError_UinitU, od_RunError_UinitU, .func (PySem.W.fnOf "__init__" "RunError.__init__" (defArgs s_RunError_UinitU) (defBody s_RunError_UinitU) (defScope s_RunError_UinitU) .none kV_RunError_UinitU dc_RunError_UinitU pm_RunError_UinitU an_RunError_UinitU cd_RunError_UinitU ct_RunError_UinitU), sl_RunError_UinitU⟩)
    (c_RunError_UinitU : PySem.W.codeIn K cd_RunError_UinitU "RunError.__init__" = true)
    (k_RunError_UinitU : PySem.W.keepIn K (.ref f_RunError_UinitU) = true)
    (a_is_name : PySem.W.nsIn K mainGlobals "is_name" = some (some (.ref f_is_name)))
    (l_is_name : K.lookup f_is_name = some ⟨oc_is_name, od_is_name, .func (PySem.W.fnOf "is_name" "is_name" (defArgs s_is_name) (defBody s_is_name) (defScope s_is_name) .none kV_is_name dc_is_name pm_is_name an_is_name cd_is_name ct_is_name), sl_is_name⟩)
    (c_is_name : PySem.W.codeIn K cd_is_name "is_name" = true)
    (k_is_name : PySem.W.keepIn K (.ref f_is_name) = true)
    (a_check_name : PySem.W.nsIn K mainGlobals "check_name" = some (some (.ref f_check_name)))
    (l_check_name : K.lookup f_check_name = some ⟨oc_check_name, od_check_name, .func (PySem.W.fnOf "check_name" "check_name" (defArgs s_check_name) (defBody s_check_name) (defScope s_check_name) .none kV_check_name dc_check_name pm_check_name an_check_name cd_check_name ct_check_name), sl_check_name⟩)
    (c_check_name : PySem.W.codeIn K cd_check_name "check_name" = true)
    (k_check_name : PySem.W.keepIn K (.ref f_check_name) = true)
    (a_check_divisor : PySem.W.nsIn K mainGlobals "check_divisor" = some (some (.ref f_check_divisor)))
    (l_check_divisor : K.lookup f_check_divisor = some ⟨oc_check_divisor, od_check_divisor, .func (PySem.W.fnOf "check_divisor" "check_divisor" (defArgs s_check_divisor) (defBody s_check_divisor) (defScope s_check_divisor) .none kV_check_divisor dc_check_divisor pm_check_divisor an_check_divisor cd_check_divisor ct_check_divisor), sl_check_divisor⟩)
    (c_check_divisor : PySem.W.codeIn K cd_check_divisor "check_divisor" = true)
    (k_check_divisor : PySem.W.keepIn K (.ref f_check_divisor) = true)
    (a_named : PySem.W.nsIn K mainGlobals "named" = some (some (.ref f_named)))
    (l_named : K.lookup f_named = some ⟨oc_named, od_named, .func (PySem.W.fnOf "named" "named" (defArgs s_named) (defBody s_named) (defScope s_named) .none kV_named dc_named pm_named an_named cd_named ct_named), sl_named⟩)
    (c_named : PySem.W.codeIn K cd_named "named" = true)
    (k_named : PySem.W.keepIn K (.ref f_named) = true)
    (a_now : PySem.W.nsIn K mainGlobals "now" = some (some (.ref f_now)))
    (l_now : K.lookup f_now = some ⟨oc_now, od_now, .func (PySem.W.fnOf "now" "now" (defArgs s_now) (defBody s_now) (defScope s_now) .none kV_now dc_now pm_now an_now cd_now ct_now), sl_now⟩)
    (c_now : PySem.W.codeIn K cd_now "now" = true)
    (k_now : PySem.W.keepIn K (.ref f_now) = true)
    (a_passed : PySem.W.nsIn K mainGlobals "passed" = some (some (.ref f_passed)))
    (l_passed : K.lookup f_passed = some ⟨oc_passed, od_passed, .func (PySem.W.fnOf "passed" "passed" (defArgs s_passed) (defBody s_passed) (defScope s_passed) .none kV_passed dc_passed pm_passed an_passed cd_passed ct_passed), sl_passed⟩)
    (c_passed : PySem.W.codeIn K cd_passed "passed" = true)
    (k_passed : PySem.W.keepIn K (.ref f_passed) = true)
    (a_number : PySem.W.nsIn K mainGlobals "number" = some (some (.ref f_number)))
    (l_number : K.lookup f_number = some ⟨oc_number, od_number, .func (PySem.W.fnOf "number" "number" (defArgs s_number) (defBody s_number) (defScope s_number) .none kV_number dc_number pm_number an_number cd_number ct_number), sl_number⟩)
    (c_number : PySem.W.codeIn K cd_number "number" = true)
    (k_number : PySem.W.keepIn K (.ref f_number) = true)
    (a_value_of : PySem.W.nsIn K mainGlobals "value_of" = some (some (.ref f_value_of)))
    (l_value_of : K.lookup f_value_of = some ⟨oc_value_of, od_value_of, .func (PySem.W.fnOf "value_of" "value_of" (defArgs s_value_of) (defBody s_value_of) (defScope s_value_of) .none kV_value_of dc_value_of pm_value_of an_value_of cd_value_of ct_value_of), sl_value_of⟩)
    (c_value_of : PySem.W.codeIn K cd_value_of "value_of" = true)
    (k_value_of : PySem.W.keepIn K (.ref f_value_of) = true)
    (a_Value_UinitU : PySem.W.findIn K (.ref C_Value) "__init__" = some (some (.ref f_Value_UinitU)))
    (i_Value_UinitU : PySem.W.isFn K (.ref f_Value_UinitU) = true)
    (l_Value_UinitU : K.lookup f_Value_UinitU = some ⟨oc_Value_UinitU, od_Value_UinitU, .func (PySem.W.fnOf "__init__" "Value.__init__" (defArgs s_Value_UinitU) (defBody s_Value_UinitU) (defScope s_Value_UinitU) .none kV_Value_UinitU dc_Value_UinitU pm_Value_UinitU an_Value_UinitU cd_Value_UinitU ct_Value_UinitU), sl_Value_UinitU⟩)
    (c_Value_UinitU : PySem.W.codeIn K cd_Value_UinitU "Value.__init__" = true)
    (k_Value_UinitU : PySem.W.keepIn K (.ref f_Value_UinitU) = true)
    (a_Value_UaddU : PySem.W.findIn K (.ref C_Value) "__add__" = some (some (.ref f_Value_UaddU)))
    (i_Value_UaddU : PySem.W.isFn K (.ref f_Value_UaddU) = true)
    (l_Value_UaddU : K.lookup f_Value_UaddU = some ⟨oc_Value_UaddU, od_Value_UaddU, .func (PySem.W.fnOf "__add__" "Value.__add__" (defArgs s_Value_UaddU) (defBody s_Value_UaddU) (defScope s_Value_UaddU) .none kV_Value_UaddU dc_Value_UaddU pm_Value_UaddU an_Value_UaddU cd_Value_UaddU ct_Value_UaddU), sl_Value_UaddU⟩)
    (c_Value_UaddU : PySem.W.codeIn K cd_Value_UaddU "Value.__add__" = true)
    (k_Value_UaddU : PySem.W.keepIn K (.ref f_Value_UaddU) = true)
    (a_Value_UraddU : PySem.W.findIn K (.ref C_Value) "__radd__" = some (some (.ref f_Value_UraddU)))
    (i_Value_UraddU : PySem.W.isFn K (.ref f_Value_UraddU) = true)
    (l_Value_UraddU : K.lookup f_Value_UraddU = some ⟨oc_Value_UraddU, od_Value_UraddU, .func (PySem.W.fnOf "__radd__" "Value.__radd__" (defArgs s_Value_UraddU) (defBody s_Value_UraddU) (defScope s_Value_UraddU) .none kV_Value_UraddU dc_Value_UraddU pm_Value_UraddU an_Value_UraddU cd_Value_UraddU ct_Value_UraddU), sl_Value_UraddU⟩)
    (c_Value_UraddU : PySem.W.codeIn K cd_Value_UraddU "Value.__radd__" = true)
    (k_Value_UraddU : PySem.W.keepIn K (.ref f_Value_UraddU) = true)
    (a_Value_UsubU : PySem.W.findIn K (.ref C_Value) "__sub__" = some (some (.ref f_Value_UsubU)))
    (i_Value_UsubU : PySem.W.isFn K (.ref f_Value_UsubU) = true)
    (l_Value_UsubU : K.lookup f_Value_UsubU = some ⟨oc_Value_UsubU, od_Value_UsubU, .func (PySem.W.fnOf "__sub__" "Value.__sub__" (defArgs s_Value_UsubU) (defBody s_Value_UsubU) (defScope s_Value_UsubU) .none kV_Value_UsubU dc_Value_UsubU pm_Value_UsubU an_Value_UsubU cd_Value_UsubU ct_Value_UsubU), sl_Value_UsubU⟩)
    (c_Value_UsubU : PySem.W.codeIn K cd_Value_UsubU "Value.__sub__" = true)
    (k_Value_UsubU : PySem.W.keepIn K (.ref f_Value_UsubU) = true)
    (a_Value_UrsubU : PySem.W.findIn K (.ref C_Value) "__rsub__" = some (some (.ref f_Value_UrsubU)))
    (i_Value_UrsubU : PySem.W.isFn K (.ref f_Value_UrsubU) = true)
    (l_Value_UrsubU : K.lookup f_Value_UrsubU = some ⟨oc_Value_UrsubU, od_Value_UrsubU, .func (PySem.W.fnOf "__rsub__" "Value.__rsub__" (defArgs s_Value_UrsubU) (defBody s_Value_UrsubU) (defScope s_Value_UrsubU) .none kV_Value_UrsubU dc_Value_UrsubU pm_Value_UrsubU an_Value_UrsubU cd_Value_UrsubU ct_Value_UrsubU), sl_Value_UrsubU⟩)
    (c_Value_UrsubU : PySem.W.codeIn K cd_Value_UrsubU "Value.__rsub__" = true)
    (k_Value_UrsubU : PySem.W.keepIn K (.ref f_Value_UrsubU) = true)
    (a_Value_UmulU : PySem.W.findIn K (.ref C_Value) "__mul__" = some (some (.ref f_Value_UmulU)))
    (i_Value_UmulU : PySem.W.isFn K (.ref f_Value_UmulU) = true)
    (l_Value_UmulU : K.lookup f_Value_UmulU = some ⟨oc_Value_UmulU, od_Value_UmulU, .func (PySem.W.fnOf "__mul__" "Value.__mul__" (defArgs s_Value_UmulU) (defBody s_Value_UmulU) (defScope s_Value_UmulU) .none kV_Value_UmulU dc_Value_UmulU pm_Value_UmulU an_Value_UmulU cd_Value_UmulU ct_Value_UmulU), sl_Value_UmulU⟩)
    (c_Value_UmulU : PySem.W.codeIn K cd_Value_UmulU "Value.__mul__" = true)
    (k_Value_UmulU : PySem.W.keepIn K (.ref f_Value_UmulU) = true)
    (a_Value_UrmulU : PySem.W.findIn K (.ref C_Value) "__rmul__" = some (some (.ref f_Value_UrmulU)))
    (i_Value_UrmulU : PySem.W.isFn K (.ref f_Value_UrmulU) = true)
    (l_Value_UrmulU : K.lookup f_Value_UrmulU = some ⟨oc_Value_UrmulU, od_Value_UrmulU, .func (PySem.W.fnOf "__rmul__" "Value.__rmul__" (defArgs s_Value_UrmulU) (defBody s_Value_UrmulU) (defScope s_Value_UrmulU) .none kV_Value_UrmulU dc_Value_UrmulU pm_Value_UrmulU an_Value_UrmulU cd_Value_UrmulU ct_Value_UrmulU), sl_Value_UrmulU⟩)
    (c_Value_UrmulU : PySem.W.codeIn K cd_Value_UrmulU "Value.__rmul__" = true)
    (k_Value_UrmulU : PySem.W.keepIn K (.ref f_Value_UrmulU) = true)
    (a_Value_UfloordivU : PySem.W.findIn K (.ref C_Value) "__floordiv__" = some (some (.ref f_Value_UfloordivU)))
    (i_Value_UfloordivU : PySem.W.isFn K (.ref f_Value_UfloordivU) = true)
    (l_Value_UfloordivU : K.lookup f_Value_UfloordivU = some ⟨oc_Value_UfloordivU, od_Value_UfloordivU, .func (PySem.W.fnOf "__floordiv__" "Value.__floordiv__" (defArgs s_Value_UfloordivU) (defBody s_Value_UfloordivU) (defScope s_Value_UfloordivU) .none kV_Value_UfloordivU dc_Value_UfloordivU pm_Value_UfloordivU an_Value_UfloordivU cd_Value_UfloordivU ct_Value_UfloordivU), sl_Value_UfloordivU⟩)
    (c_Value_UfloordivU : PySem.W.codeIn K cd_Value_UfloordivU "Value.__floordiv__" = true)
    (k_Value_UfloordivU : PySem.W.keepIn K (.ref f_Value_UfloordivU) = true)
    (a_Value_UandU : PySem.W.findIn K (.ref C_Value) "__and__" = some (some (.ref f_Value_UandU)))
    (i_Value_UandU : PySem.W.isFn K (.ref f_Value_UandU) = true)
    (l_Value_UandU : K.lookup f_Value_UandU = some ⟨oc_Value_UandU, od_Value_UandU, .func (PySem.W.fnOf "__and__" "Value.__and__" (defArgs s_Value_UandU) (defBody s_Value_UandU) (defScope s_Value_UandU) .none kV_Value_UandU dc_Value_UandU pm_Value_UandU an_Value_UandU cd_Value_UandU ct_Value_UandU), sl_Value_UandU⟩)
    (c_Value_UandU : PySem.W.codeIn K cd_Value_UandU "Value.__and__" = true)
    (k_Value_UandU : PySem.W.keepIn K (.ref f_Value_UandU) = true)
    (a_Value_UrandU : PySem.W.findIn K (.ref C_Value) "__rand__" = some (some (.ref f_Value_UrandU)))
    (i_Value_UrandU : PySem.W.isFn K (.ref f_Value_UrandU) = true)
    (l_Value_UrandU : K.lookup f_Value_UrandU = some ⟨oc_Value_UrandU, od_Value_UrandU, .func (PySem.W.fnOf "__rand__" "Value.__rand__" (defArgs s_Value_UrandU) (defBody s_Value_UrandU) (defScope s_Value_UrandU) .none kV_Value_UrandU dc_Value_UrandU pm_Value_UrandU an_Value_UrandU cd_Value_UrandU ct_Value_UrandU), sl_Value_UrandU⟩)
    (c_Value_UrandU : PySem.W.codeIn K cd_Value_UrandU "Value.__rand__" = true)
    (k_Value_UrandU : PySem.W.keepIn K (.ref f_Value_UrandU) = true)
    (a_Value_UorU : PySem.W.findIn K (.ref C_Value) "__or__" = some (some (.ref f_Value_UorU)))
    (i_Value_UorU : PySem.W.isFn K (.ref f_Value_UorU) = true)
    (l_Value_UorU : K.lookup f_Value_UorU = some ⟨oc_Value_UorU, od_Value_UorU, .func (PySem.W.fnOf "__or__" "Value.__or__" (defArgs s_Value_UorU) (defBody s_Value_UorU) (defScope s_Value_UorU) .none kV_Value_UorU dc_Value_UorU pm_Value_UorU an_Value_UorU cd_Value_UorU ct_Value_UorU), sl_Value_UorU⟩)
    (c_Value_UorU : PySem.W.codeIn K cd_Value_UorU "Value.__or__" = true)
    (k_Value_UorU : PySem.W.keepIn K (.ref f_Value_UorU) = true)
    (a_Value_UrorU : PySem.W.findIn K (.ref C_Value) "__ror__" = some (some (.ref f_Value_UrorU)))
    (i_Value_UrorU : PySem.W.isFn K (.ref f_Value_UrorU) = true)
    (l_Value_UrorU : K.lookup f_Value_UrorU = some ⟨oc_Value_UrorU, od_Value_UrorU, .func (PySem.W.fnOf "__ror__" "Value.__ror__" (defArgs s_Value_UrorU) (defBody s_Value_UrorU) (defScope s_Value_UrorU) .none kV_Value_UrorU dc_Value_UrorU pm_Value_UrorU an_Value_UrorU cd_Value_UrorU ct_Value_UrorU), sl_Value_UrorU⟩)
    (c_Value_UrorU : PySem.W.codeIn K cd_Value_UrorU "Value.__ror__" = true)
    (k_Value_UrorU : PySem.W.keepIn K (.ref f_Value_UrorU) = true)
    (a_Value_UinvertU : PySem.W.findIn K (.ref C_Value) "__invert__" = some (some (.ref f_Value_UinvertU)))
    (i_Value_UinvertU : PySem.W.isFn K (.ref f_Value_UinvertU) = true)
    (l_Value_UinvertU : K.lookup f_Value_UinvertU = some ⟨oc_Value_UinvertU, od_Value_UinvertU, .func (PySem.W.fnOf "__invert__" "Value.__invert__" (defArgs s_Value_UinvertU) (defBody s_Value_UinvertU) (defScope s_Value_UinvertU) .none kV_Value_UinvertU dc_Value_UinvertU pm_Value_UinvertU an_Value_UinvertU cd_Value_UinvertU ct_Value_UinvertU), sl_Value_UinvertU⟩)
    (c_Value_UinvertU : PySem.W.codeIn K cd_Value_UinvertU "Value.__invert__" = true)
    (k_Value_UinvertU : PySem.W.keepIn K (.ref f_Value_UinvertU) = true)
    (a_Value_UeqU : PySem.W.findIn K (.ref C_Value) "__eq__" = some (some (.ref f_Value_UeqU)))
    (i_Value_UeqU : PySem.W.isFn K (.ref f_Value_UeqU) = true)
    (l_Value_UeqU : K.lookup f_Value_UeqU = some ⟨oc_Value_UeqU, od_Value_UeqU, .func (PySem.W.fnOf "__eq__" "Value.__eq__" (defArgs s_Value_UeqU) (defBody s_Value_UeqU) (defScope s_Value_UeqU) .none kV_Value_UeqU dc_Value_UeqU pm_Value_UeqU an_Value_UeqU cd_Value_UeqU ct_Value_UeqU), sl_Value_UeqU⟩)
    (c_Value_UeqU : PySem.W.codeIn K cd_Value_UeqU "Value.__eq__" = true)
    (k_Value_UeqU : PySem.W.keepIn K (.ref f_Value_UeqU) = true)
    (a_Value_rest : PySem.W.findIn K (.ref C_Value) "rest" = some (some (.ref f_Value_rest)))
    (i_Value_rest : PySem.W.isFn K (.ref f_Value_rest) = true)
    (l_Value_rest : K.lookup f_Value_rest = some ⟨oc_Value_rest, od_Value_rest, .func (PySem.W.fnOf "rest" "Value.rest" (defArgs s_Value_rest) (defBody s_Value_rest) (defScope s_Value_rest) .none kV_Value_rest dc_Value_rest pm_Value_rest an_Value_rest cd_Value_rest ct_Value_rest), sl_Value_rest⟩)
    (c_Value_rest : PySem.W.codeIn K cd_Value_rest "Value.rest" = true)
    (k_Value_rest : PySem.W.keepIn K (.ref f_Value_rest) = true)
    (a_Value_same : PySem.W.findIn K (.ref C_Value) "same" = some (some (.ref f_Value_same)))
    (i_Value_same : PySem.W.isFn K (.ref f_Value_same) = true)
    (l_Value_same : K.lookup f_Value_same = some ⟨oc_Value_same, od_Value_same, .func (PySem.W.fnOf "same" "Value.same" (defArgs s_Value_same) (defBody s_Value_same) (defScope s_Value_same) .none kV_Value_same dc_Value_same pm_Value_same an_Value_same cd_Value_same ct_Value_same), sl_Value_same⟩)
    (c_Value_same : PySem.W.codeIn K cd_Value_same "Value.same" = true)
    (k_Value_same : PySem.W.keepIn K (.ref f_Value_same) = true)
    (a_Value_less : PySem.W.findIn K (.ref C_Value) "less" = some (some (.ref f_Value_less)))
    (i_Value_less : PySem.W.isFn K (.ref f_Value_less) = true)
    (l_Value_less : K.lookup f_Value_less = some ⟨oc_Value_less, od_Value_less, .func (PySem.W.fnOf "less" "Value.less" (defArgs s_Value_less) (defBody s_Value_less) (defScope s_Value_less) .none kV_Value_less dc_Value_less pm_Value_less an_Value_less cd_Value_less ct_Value_less), sl_Value_less⟩)
    (c_Value_less : PySem.W.codeIn K cd_Value_less "Value.less" = true)
    (k_Value_less : PySem.W.keepIn K (.ref f_Value_less) = true)
    (a_law_well : PySem.W.nsIn K mainGlobals "_law_well" = some (some (.ref f_law_well)))
    (l_law_well : K.lookup f_law_well = some ⟨oc_law_well, od_law_well, .func (PySem.W.fnOf "_law_well" "_law_well" (defArgs s_law_well) (defBody s_law_well) (defScope s_law_well) .none kV_law_well dc_law_well pm_law_well an_law_well cd_law_well ct_law_well), sl_law_well⟩)
    (c_law_well : PySem.W.codeIn K cd_law_well "_law_well" = true)
    (k_law_well : PySem.W.keepIn K (.ref f_law_well) = true)
    (a_law_take : PySem.W.nsIn K mainGlobals "_law_take" = some (some (.ref f_law_take)))
    (l_law_take : K.lookup f_law_take = some ⟨oc_law_take, od_law_take, .func (PySem.W.fnOf "_law_take" "_law_take" (defArgs s_law_take) (defBody s_law_take) (defScope s_law_take) .none kV_law_take dc_law_take pm_law_take an_law_take cd_law_take ct_law_take), sl_law_take⟩)
    (c_law_take : PySem.W.codeIn K cd_law_take "_law_take" = true)
    (k_law_take : PySem.W.keepIn K (.ref f_law_take) = true)
    (a_law_cells : PySem.W.nsIn K mainGlobals "_law_cells" = some (some (.ref f_law_cells)))
    (l_law_cells : K.lookup f_law_cells = some ⟨oc_law_cells, od_law_cells, .func (PySem.W.fnOf "_law_cells" "_law_cells" (defArgs s_law_cells) (defBody s_law_cells) (defScope s_law_cells) .none kV_law_cells dc_law_cells pm_law_cells an_law_cells cd_law_cells ct_law_cells), sl_law_cells⟩)
    (c_law_cells : PySem.W.codeIn K cd_law_cells "_law_cells" = true)
    (k_law_cells : PySem.W.keepIn K (.ref f_law_cells) = true)
    (a_law_integer : PySem.W.nsIn K mainGlobals "_law_integer" = some (some (.ref f_law_integer)))
    (l_law_integer : K.lookup f_law_integer = some ⟨oc_law_integer, od_law_integer, .func (PySem.W.fnOf "_law_integer" "_law_integer" (defArgs s_law_integer) (defBody s_law_integer) (defScope s_law_integer) .none kV_law_integer dc_law_integer pm_law_integer an_law_integer cd_law_integer ct_law_integer), sl_law_integer⟩)
    (c_law_integer : PySem.W.codeIn K cd_law_integer "_law_integer" = true)
    (k_law_integer : PySem.W.keepIn K (.ref f_law_integer) = true)
    (a_law_recipe : PySem.W.nsIn K mainGlobals "_law_recipe" = some (some (.ref f_law_recipe)))
    (l_law_recipe : K.lookup f_law_recipe = some ⟨oc_law_recipe, od_law_recipe, .func (PySem.W.fnOf "_law_recipe" "_law_recipe" (defArgs s_law_recipe) (defBody s_law_recipe) (defScope s_law_recipe) .none kV_law_recipe dc_law_recipe pm_law_recipe an_law_recipe cd_law_recipe ct_law_recipe), sl_law_recipe⟩)
    (c_law_recipe : PySem.W.codeIn K cd_law_recipe "_law_recipe" = true)
    (k_law_recipe : PySem.W.keepIn K (.ref f_law_recipe) = true)
    (a_law_signs : PySem.W.nsIn K mainGlobals "_law_signs" = some (some (.ref f_law_signs)))
    (l_law_signs : K.lookup f_law_signs = some ⟨oc_law_signs, od_law_signs, .func (PySem.W.fnOf "_law_signs" "_law_signs" (defArgs s_law_signs) (defBody s_law_signs) (defScope s_law_signs) .none kV_law_signs dc_law_signs pm_law_signs an_law_signs cd_law_signs ct_law_signs), sl_law_signs⟩)
    (c_law_signs : PySem.W.codeIn K cd_law_signs "_law_signs" = true)
    (k_law_signs : PySem.W.keepIn K (.ref f_law_signs) = true)
    (a_law_joined : PySem.W.nsIn K mainGlobals "_law_joined" = some (some (.ref f_law_joined)))
    (l_law_joined : K.lookup f_law_joined = some ⟨oc_law_joined, od_law_joined, .func (PySem.W.fnOf "_law_joined" "_law_joined" (defArgs s_law_joined) (defBody s_law_joined) (defScope s_law_joined) .none kV_law_joined dc_law_joined pm_law_joined an_law_joined cd_law_joined ct_law_joined), sl_law_joined⟩)
    (c_law_joined : PySem.W.codeIn K cd_law_joined "_law_joined" = true)
    (k_law_joined : PySem.W.keepIn K (.ref f_law_joined) = true)
    (a_law_side : PySem.W.nsIn K mainGlobals "_law_side" = some (some (.ref f_law_side)))
    (l_law_side : K.lookup f_law_side = some ⟨oc_law_side, od_law_side, .func (PySem.W.fnOf "_law_side" "_law_side" (defArgs s_law_side) (defBody s_law_side) (defScope s_law_side) .none kV_law_side dc_law_side pm_law_side an_law_side cd_law_side ct_law_side), sl_law_side⟩)
    (c_law_side : PySem.W.codeIn K cd_law_side "_law_side" = true)
    (k_law_side : PySem.W.keepIn K (.ref f_law_side) = true)
    (a_law_built : PySem.W.nsIn K mainGlobals "_law_built" = some (some (.ref f_law_built)))
    (l_law_built : K.lookup f_law_built = some ⟨oc_law_built, od_law_built, .func (PySem.W.fnOf "_law_built" "_law_built" (defArgs s_law_built) (defBody s_law_built) (defScope s_law_built) .none kV_law_built dc_law_built pm_law_built an_law_built cd_law_built ct_law_built), sl_law_built⟩)
    (c_law_built : PySem.W.codeIn K cd_law_built "_law_built" = true)
    (k_law_built : PySem.W.keepIn K (.ref f_law_built) = true)
    (a_law_leaf : PySem.W.nsIn K mainGlobals "_law_leaf" = some (some (.ref f_law_leaf)))
    (l_law_leaf : K.lookup f_law_leaf = some ⟨oc_law_leaf, od_law_leaf, .func (PySem.W.fnOf "_law_leaf" "_law_leaf" (defArgs s_law_leaf) (defBody s_law_leaf) (defScope s_law_leaf) .none kV_law_leaf dc_law_leaf pm_law_leaf an_law_leaf cd_law_leaf ct_law_leaf), sl_law_leaf⟩)
    (c_law_leaf : PySem.W.codeIn K cd_law_leaf "_law_leaf" = true)
    (k_law_leaf : PySem.W.keepIn K (.ref f_law_leaf) = true)
    (a_law_changed : PySem.W.nsIn K mainGlobals "_law_changed" = some (some (.ref f_law_changed)))
    (l_law_changed : K.lookup f_law_changed = some ⟨oc_law_changed, od_law_changed, .func (PySem.W.fnOf "_law_changed" "_law_changed" (defArgs s_law_changed) (defBody s_law_changed) (defScope s_law_changed) .none kV_law_changed dc_law_changed pm_law_changed an_law_changed cd_law_changed ct_law_changed), sl_law_changed⟩)
    (c_law_changed : PySem.W.codeIn K cd_law_changed "_law_changed" = true)
    (k_law_changed : PySem.W.keepIn K (.ref f_law_changed) = true)
    (a_law_both : PySem.W.nsIn K mainGlobals "_law_both" = some (some (.ref f_law_both)))
    (l_law_both : K.lookup f_law_both = some ⟨oc_law_both, od_law_both, .func (PySem.W.fnOf "_law_both" "_law_both" (defArgs s_law_both) (defBody s_law_both) (defScope s_law_both) .none kV_law_both dc_law_both pm_law_both an_law_both cd_law_both ct_law_both), sl_law_both⟩)
    (c_law_both : PySem.W.codeIn K cd_law_both "_law_both" = true)
    (k_law_both : PySem.W.keepIn K (.ref f_law_both) = true)
    (a_law_fits : PySem.W.nsIn K mainGlobals "_law_fits" = some (some (.ref f_law_fits)))
    (l_law_fits : K.lookup f_law_fits = some ⟨oc_law_fits, od_law_fits, .func (PySem.W.fnOf "_law_fits" "_law_fits" (defArgs s_law_fits) (defBody s_law_fits) (defScope s_law_fits) .none kV_law_fits dc_law_fits pm_law_fits an_law_fits cd_law_fits ct_law_fits), sl_law_fits⟩)
    (c_law_fits : PySem.W.codeIn K cd_law_fits "_law_fits" = true)
    (k_law_fits : PySem.W.keepIn K (.ref f_law_fits) = true)
    (a_law : PySem.W.nsIn K mainGlobals "law" = some (some (.ref f_law)))
    (l_law : K.lookup f_law = some ⟨oc_law, od_law, .func (PySem.W.fnOf "law" "law" (defArgs s_law) (defBody s_law) (defScope s_law) .none kV_law dc_law pm_law an_law cd_law ct_law), sl_law⟩)
    (c_law : PySem.W.codeIn K cd_law "law" = true)
    (k_law : PySem.W.keepIn K (.ref f_law) = true)
    (tI : PySem.W.typeIn K (.ref f_RunError_UinitU) = some (.type "function"))
    (pg_Value : PySem.W.plainGet K C_Value Str.empty = true)
    (hd_Value : PySem.W.hasDictIn K C_Value = true)
    (po_Value : PySem.W.plainOver K C_Value = true)
    (sa_Value : PySem.W.findIn K (.ref C_Value) "__setattr__" = some (some (.builtin "object.__setattr__")))
    (mk_Value : PySem.W.makesIn K C_Value = true)
    (kc_Value : PySem.W.keepIn K (.ref C_Value) = true)
    (n_Value_sign : PySem.W.findIn K (.ref C_Value) "sign" = some none)
    (n_Value_first : PySem.W.findIn K (.ref C_Value) "first" = some none)
    (n_Value_second : PySem.W.findIn K (.ref C_Value) "second" = some none)
    (ic_Value : PySem.W.findIn K (.ref C_Value) "__class__" = some (some (.builtin "object.__class__")))
    (im_Value : PySem.W.mroIn K C_Value (.type "object") = some true)
    (ty_Value : PySem.W.typeIn K (.ref C_Value) = some (.type "type"))
    (ig : PySem.W.specialIn K (.builtin "object.__class__") "__get__" = some (some (.builtin "getset_descriptor.__get__")))
    (it : PySem.W.takesIn K (.builtin "object.__class__") = some true)
    (oli_mul : PySem.W.findIn K (.type "int") "__mul__" = some li_mul)
    (ori_mul : PySem.W.findIn K (.type "int") "__rmul__" = some ri_mul)
    (oli_add : PySem.W.findIn K (.type "int") "__add__" = some li_add)
    (ori_add : PySem.W.findIn K (.type "int") "__radd__" = some ri_add)
    (oli_sub : PySem.W.findIn K (.type "int") "__sub__" = some li_sub)
    (ori_sub : PySem.W.findIn K (.type "int") "__rsub__" = some ri_sub)
    (oli_and : PySem.W.findIn K (.type "int") "__and__" = some li_and)
    (ori_and : PySem.W.findIn K (.type "int") "__rand__" = some ri_and)
    (oli_or : PySem.W.findIn K (.type "int") "__or__" = some li_or)
    (ori_or : PySem.W.findIn K (.type "int") "__ror__" = some ri_or)
    (oli_floordiv : PySem.W.findIn K (.type "int") "__floordiv__" = some li_floordiv)
    (ori_floordiv : PySem.W.findIn K (.type "int") "__rfloordiv__" = some ri_floordiv)
    (orr_floordiv : PySem.W.findIn K (.ref C_Value) "__rfloordiv__" = some none)
    (sf : PySem.W.selfFirst K C_Value = true)
    (ni : PySem.W.subIn K (.type "int") (.ref C_Value) = some false)
    (no : PySem.W.subIn K (.ref C_Value) (.type "int") = some false)
    (neq_Value : PySem.W.findIn K (.ref C_Value) "__ne__" = some (some (.builtin "object.__ne__")))
    (kk_Value_NoneType : PySem.W.subIn K (.ref C_Value) (.type "NoneType") = some false)
    (kk_Value_bool : PySem.W.subIn K (.ref C_Value) (.type "bool") = some false)
    (kk_Value_int : PySem.W.subIn K (.ref C_Value) (.type "int") = some false)
    (kk_Value_str : PySem.W.subIn K (.ref C_Value) (.type "str") = some false)
    (kk_Value_list : PySem.W.subIn K (.ref C_Value) (.type "list") = some false)
    (kk_Value_tuple : PySem.W.subIn K (.ref C_Value) (.type "tuple") = some false)
    (kk_Value_dict : PySem.W.subIn K (.ref C_Value) (.type "dict") = some false)
    (st_Value_tuple : PySem.W.subIn K (.ref C_Value) (.type "tuple") = some false)
    (xl_InvalidDivisor : K.lookup C_InvalidDivisor = some (excClassObj nm_InvalidDivisor qn_InvalidDivisor C_InvalidDivisor N_InvalidDivisor bs_InvalidDivisor bm_InvalidDivisor true sn_InvalidDivisor sub_InvalidDivisor ab_InvalidDivisor col_InvalidDivisor dd_InvalidDivisor k0_InvalidDivisor k1_InvalidDivisor k2_InvalidDivisor k3_InvalidDivisor k5_InvalidDivisor "ValueError.__new__"))
    (xr_InvalidDivisor : PySem.HandSPX.refsVE bm_InvalidDivisor = true)
    (xs_InvalidDivisor : PySem.W.findIn K (.ref C_InvalidDivisor) "__setattr__" = some (some (.builtin "object.__setattr__")))
    (xe_InvalidDivisor : PySem.W.subIn K (.ref C_InvalidDivisor) (.type "BaseException") = some true)
    (xt_InvalidDivisor : PySem.W.typeIn K (.ref C_InvalidDivisor) = some (.type "type"))
    (xk_InvalidDivisor : PySem.W.keepIn K (.ref C_InvalidDivisor) = true)
    (xv_InvalidDivisor : PySem.W.findIn K (.ref C_InvalidDivisor) "value" = some none)
    (xi_InvalidDivisor : PySem.W.findIn K (.ref C_InvalidDivisor) "__init__" = some (some (.ref f_RunError_UinitU)))
    (xl_InvalidName : K.lookup C_InvalidName = some (excClassObj nm_InvalidName qn_InvalidName C_InvalidName N_InvalidName bs_InvalidName bm_InvalidName true sn_InvalidName sub_InvalidName ab_InvalidName col_InvalidName dd_InvalidName k0_InvalidName k1_InvalidName k2_InvalidName k3_InvalidName k5_InvalidName "ValueError.__new__"))
    (xr_InvalidName : PySem.HandSPX.refsVE bm_InvalidName = true)
    (xs_InvalidName : PySem.W.findIn K (.ref C_InvalidName) "__setattr__" = some (some (.builtin "object.__setattr__")))
    (xe_InvalidName : PySem.W.subIn K (.ref C_InvalidName) (.type "BaseException") = some true)
    (xt_InvalidName : PySem.W.typeIn K (.ref C_InvalidName) = some (.type "type"))
    (xk_InvalidName : PySem.W.keepIn K (.ref C_InvalidName) = true)
    (xv_InvalidName : PySem.W.findIn K (.ref C_InvalidName) "value" = some none)
    (xi_InvalidName : PySem.W.findIn K (.ref C_InvalidName) "__init__" = some (some (.ref f_RunError_UinitU)))
    (k_LETTERS : PySem.W.nsIn K mainGlobals "LETTERS" = some (some v_LETTERS))
    (kv_LETTERS : v_LETTERS = .str "abcdefghijklmnopqrstuvwxyz" t_LETTERS)
    (no_all : PySem.W.nsIn K mainGlobals "all" = some none)
    (no_len : PySem.W.nsIn K mainGlobals "len" = some none)
    (no_isinstance : PySem.W.nsIn K mainGlobals "isinstance" = some none)
    (no_int : PySem.W.nsIn K mainGlobals "int" = some none)
    (no_abs : PySem.W.nsIn K mainGlobals "abs" = some none)
    (no_range : PySem.W.nsIn K mainGlobals "range" = some none)
    (no_sum : PySem.W.nsIn K mainGlobals "sum" = some none)
    (no_tuple : PySem.W.nsIn K mainGlobals "tuple" = some none)
    (no_enumerate : PySem.W.nsIn K mainGlobals "enumerate" = some none)
    (no_repr : PySem.W.nsIn K mainGlobals "repr" = some none)
    (no_max : PySem.W.nsIn K mainGlobals "max" = some none)
    (no_min : PySem.W.nsIn K mainGlobals "min" = some none)
    (dn_Value_RunError : C_Value ≠ C_RunError)
    (dn_Value_InvalidName : C_Value ≠ C_InvalidName)
    (dn_Value_UnknownName : C_Value ≠ C_UnknownName)
    (dn_Value_InvalidDivisor : C_Value ≠ C_InvalidDivisor)
    (dn_RunError_InvalidName : C_RunError ≠ C_InvalidName)
    (dn_RunError_UnknownName : C_RunError ≠ C_UnknownName)
    (dn_RunError_InvalidDivisor : C_RunError ≠ C_InvalidDivisor)
    (dn_InvalidName_UnknownName : C_InvalidName ≠ C_UnknownName)
    (dn_InvalidName_InvalidDivisor : C_InvalidName ≠ C_InvalidDivisor)
    (dn_UnknownName_InvalidDivisor : C_UnknownName ≠ C_InvalidDivisor)
    : ∃ a : Ad, Ctx K mg a ∧ ClOk a.c ∧ (mg "law" = some (.ref a.f_law)) ∧ (∀ (s : Shared) (v : Value), BindsTo s a.d_law ⟨[v], []⟩ [("script", v)]) := by
  obtain ⟨a, h1, h2, h3, h4⟩ := mk X G a_Value a_RunError a_InvalidName a_UnknownName a_InvalidDivisor a_RunError_UinitU i_RunError_UinitU l_RunError_UinitU c_RunError_UinitU k_RunError_UinitU a_is_name l_is_name c_is_name k_is_name a_check_name l_check_name c_check_name k_check_name a_check_divisor l_check_divisor c_check_divisor k_check_divisor a_named l_named c_named k_named a_now l_now c_now k_now a_passed l_passed c_passed k_passed a_number l_number c_number k_number a_value_of l_value_of c_value_of k_value_of a_Value_UinitU i_Value_UinitU l_Value_UinitU c_Value_UinitU k_Value_UinitU a_Value_UaddU i_Value_UaddU l_Value_UaddU c_Value_UaddU k_Value_UaddU a_Value_UraddU i_Value_UraddU l_Value_UraddU c_Value_UraddU k_Value_UraddU a_Value_UsubU i_Value_UsubU l_Value_UsubU c_Value_UsubU k_Value_UsubU a_Value_UrsubU i_Value_UrsubU l_Value_UrsubU c_Value_UrsubU k_Value_UrsubU a_Value_UmulU i_Value_UmulU l_Value_UmulU c_Value_UmulU k_Value_UmulU a_Value_UrmulU i_Value_UrmulU l_Value_UrmulU c_Value_UrmulU k_Value_UrmulU a_Value_UfloordivU i_Value_UfloordivU l_Value_UfloordivU c_Value_UfloordivU k_Value_UfloordivU a_Value_UandU i_Value_UandU l_Value_UandU c_Value_UandU k_Value_UandU a_Value_UrandU i_Value_UrandU l_Value_UrandU c_Value_UrandU k_Value_UrandU a_Value_UorU i_Value_UorU l_Value_UorU c_Value_UorU k_Value_UorU a_Value_UrorU i_Value_UrorU l_Value_UrorU c_Value_UrorU k_Value_UrorU a_Value_UinvertU i_Value_UinvertU l_Value_UinvertU c_Value_UinvertU k_Value_UinvertU a_Value_UeqU i_Value_UeqU l_Value_UeqU c_Value_UeqU k_Value_UeqU a_Value_rest i_Value_rest l_Value_rest c_Value_rest k_Value_rest a_Value_same i_Value_same l_Value_same c_Value_same k_Value_same a_Value_less i_Value_less l_Value_less c_Value_less k_Value_less a_law_well l_law_well c_law_well k_law_well a_law_take l_law_take c_law_take k_law_take a_law_cells l_law_cells c_law_cells k_law_cells a_law_integer l_law_integer c_law_integer k_law_integer a_law_recipe l_law_recipe c_law_recipe k_law_recipe a_law_signs l_law_signs c_law_signs k_law_signs a_law_joined l_law_joined c_law_joined k_law_joined a_law_side l_law_side c_law_side k_law_side a_law_built l_law_built c_law_built k_law_built a_law_leaf l_law_leaf c_law_leaf k_law_leaf a_law_changed l_law_changed c_law_changed k_law_changed a_law_both l_law_both c_law_both k_law_both a_law_fits l_law_fits c_law_fits k_law_fits a_law l_law c_law k_law tI pg_Value hd_Value po_Value sa_Value mk_Value kc_Value n_Value_sign n_Value_first n_Value_second ic_Value im_Value ty_Value ig it oli_mul ori_mul oli_add ori_add oli_sub ori_sub oli_and ori_and oli_or ori_or oli_floordiv ori_floordiv orr_floordiv sf ni no neq_Value kk_Value_NoneType kk_Value_bool kk_Value_int kk_Value_str kk_Value_list kk_Value_tuple kk_Value_dict st_Value_tuple xl_InvalidDivisor xr_InvalidDivisor xs_InvalidDivisor xe_InvalidDivisor xt_InvalidDivisor xk_InvalidDivisor xv_InvalidDivisor xi_InvalidDivisor xl_InvalidName xr_InvalidName xs_InvalidName xe_InvalidName xt_InvalidName xk_InvalidName xv_InvalidName xi_InvalidName k_LETTERS kv_LETTERS no_all no_len no_isinstance no_int no_abs no_range no_sum no_tuple no_enumerate no_repr no_max no_min dn_Value_RunError dn_Value_InvalidName dn_Value_UnknownName dn_Value_InvalidDivisor dn_RunError_InvalidName dn_RunError_UnknownName dn_RunError_InvalidDivisor dn_InvalidName_UnknownName dn_InvalidName_InvalidDivisor dn_UnknownName_InvalidDivisor
  exact ⟨a, h1, h2, by rw [h3]; exact PySem.W.mg_of X G a_law, h4⟩
end Lk
open PySem PySem.W PyProof.Rows L2 DL
set_option maxRecDepth 100000 in
set_option maxHeartbeats 0 in
theorem PySem.Challenge.cw_elderruns_k04_values_built_unlike_holds : PySem.Challenge.rw_elderruns_k04_values_built_unlike.Holds := by
  w_on; o_law; k_head; (case hw => w_witness2)
  k_fill
  refine walkG (l := PySem.Challenge.rw_elderruns_k04_values_built_unlike) (n := 63) (k := 121) (x := "script") rfl (by decide) rfl ⟨rfl, by decide, by decide⟩ (fun w h Y => PySem.W.kIn_of Y) ?G
  case G =>
    intro w mg fa h KX GX hmg
    refine ⟨by exact (Eq.refl true), ?_⟩
    obtain ⟨a, T, ok, ef, bd⟩ : ∃ a : Lk.Ad, Lk.Ctx _ mg a ∧ Lk.ClOk a.c ∧ (mg "law" = some (.ref a.f_law)) ∧ (∀ (s : Shared) (v : Value), BindsTo s a.d_law ⟨[v], []⟩ [("script", v)]) := by
      refine' Lk.mk0 KX GX ?a_Value ?a_RunError ?a_InvalidName ?a_UnknownName ?a_InvalidDivisor ?a_RunError_UinitU ?i_RunError_UinitU ?l_RunError_UinitU ?c_RunError_UinitU ?k_RunError_UinitU ?a_is_name ?l_is_name ?c_is_name ?k_is_name ?a_check_name ?l_check_name ?c_check_name ?k_check_name ?a_check_divisor ?l_check_divisor ?c_check_divisor ?k_check_divisor ?a_named ?l_named ?c_named ?k_named ?a_now ?l_now ?c_now ?k_now ?a_passed ?l_passed ?c_passed ?k_passed ?a_number ?l_number ?c_number ?k_number ?a_value_of ?l_value_of ?c_value_of ?k_value_of ?a_Value_UinitU ?i_Value_UinitU ?l_Value_UinitU ?c_Value_UinitU ?k_Value_UinitU ?a_Value_UaddU ?i_Value_UaddU ?l_Value_UaddU ?c_Value_UaddU ?k_Value_UaddU ?a_Value_UraddU ?i_Value_UraddU ?l_Value_UraddU ?c_Value_UraddU ?k_Value_UraddU ?a_Value_UsubU ?i_Value_UsubU ?l_Value_UsubU ?c_Value_UsubU ?k_Value_UsubU ?a_Value_UrsubU ?i_Value_UrsubU ?l_Value_UrsubU ?c_Value_UrsubU ?k_Value_UrsubU ?a_Value_UmulU ?i_Value_UmulU ?l_Value_UmulU ?c_Value_UmulU ?k_Value_UmulU ?a_Value_UrmulU ?i_Value_UrmulU ?l_Value_UrmulU ?c_Value_UrmulU ?k_Value_UrmulU ?a_Value_UfloordivU ?i_Value_UfloordivU ?l_Value_UfloordivU ?c_Value_UfloordivU ?k_Value_UfloordivU ?a_Value_UandU ?i_Value_UandU ?l_Value_UandU ?c_Value_UandU ?k_Value_UandU ?a_Value_UrandU ?i_Value_UrandU ?l_Value_UrandU ?c_Value_UrandU ?k_Value_UrandU ?a_Value_UorU ?i_Value_UorU ?l_Value_UorU ?c_Value_UorU ?k_Value_UorU ?a_Value_UrorU ?i_Value_UrorU ?l_Value_UrorU ?c_Value_UrorU ?k_Value_UrorU ?a_Value_UinvertU ?i_Value_UinvertU ?l_Value_UinvertU ?c_Value_UinvertU ?k_Value_UinvertU ?a_Value_UeqU ?i_Value_UeqU ?l_Value_UeqU ?c_Value_UeqU ?k_Value_UeqU ?a_Value_rest ?i_Value_rest ?l_Value_rest ?c_Value_rest ?k_Value_rest ?a_Value_same ?i_Value_same ?l_Value_same ?c_Value_same ?k_Value_same ?a_Value_less ?i_Value_less ?l_Value_less ?c_Value_less ?k_Value_less ?a_law_well ?l_law_well ?c_law_well ?k_law_well ?a_law_take ?l_law_take ?c_law_take ?k_law_take ?a_law_cells ?l_law_cells ?c_law_cells ?k_law_cells ?a_law_integer ?l_law_integer ?c_law_integer ?k_law_integer ?a_law_recipe ?l_law_recipe ?c_law_recipe ?k_law_recipe ?a_law_signs ?l_law_signs ?c_law_signs ?k_law_signs ?a_law_joined ?l_law_joined ?c_law_joined ?k_law_joined ?a_law_side ?l_law_side ?c_law_side ?k_law_side ?a_law_built ?l_law_built ?c_law_built ?k_law_built ?a_law_leaf ?l_law_leaf ?c_law_leaf ?k_law_leaf ?a_law_changed ?l_law_changed ?c_law_changed ?k_law_changed ?a_law_both ?l_law_both ?c_law_both ?k_law_both ?a_law_fits ?l_law_fits ?c_law_fits ?k_law_fits ?a_law ?l_law ?c_law ?k_law ?tI ?pg_Value ?hd_Value ?po_Value ?sa_Value ?mk_Value ?kc_Value ?n_Value_sign ?n_Value_first ?n_Value_second ?ic_Value ?im_Value ?ty_Value ?ig ?it ?oli_mul ?ori_mul ?oli_add ?ori_add ?oli_sub ?ori_sub ?oli_and ?ori_and ?oli_or ?ori_or ?oli_floordiv ?ori_floordiv ?orr_floordiv ?sf ?ni ?no ?neq_Value ?kk_Value_NoneType ?kk_Value_bool ?kk_Value_int ?kk_Value_str ?kk_Value_list ?kk_Value_tuple ?kk_Value_dict ?st_Value_tuple ?xl_InvalidDivisor ?xr_InvalidDivisor ?xs_InvalidDivisor ?xe_InvalidDivisor ?xt_InvalidDivisor ?xk_InvalidDivisor ?xv_InvalidDivisor ?xi_InvalidDivisor ?xl_InvalidName ?xr_InvalidName ?xs_InvalidName ?xe_InvalidName ?xt_InvalidName ?xk_InvalidName ?xv_InvalidName ?xi_InvalidName ?k_LETTERS ?kv_LETTERS ?no_all ?no_len ?no_isinstance ?no_int ?no_abs ?no_range ?no_sum ?no_tuple ?no_enumerate ?no_repr ?no_max ?no_min ?dn_Value_RunError ?dn_Value_InvalidName ?dn_Value_UnknownName ?dn_Value_InvalidDivisor ?dn_RunError_InvalidName ?dn_RunError_UnknownName ?dn_RunError_InvalidDivisor ?dn_InvalidName_UnknownName ?dn_InvalidName_InvalidDivisor ?dn_UnknownName_InvalidDivisor
      (case a_Value => k_is)
      (case a_RunError => k_is)
      (case a_InvalidName => k_is)
      (case a_UnknownName => k_is)
      (case a_InvalidDivisor => k_is)
      (case a_RunError_UinitU => k_is)
      (case i_RunError_UinitU => k_is)
      (case l_RunError_UinitU => k_is)
      (case c_RunError_UinitU => k_is)
      (case k_RunError_UinitU => k_is)
      (case a_is_name => k_is)
      (case l_is_name => k_is)
      (case c_is_name => k_is)
      (case k_is_name => k_is)
      (case a_check_name => k_is)
      (case l_check_name => k_is)
      (case c_check_name => k_is)
      (case k_check_name => k_is)
      (case a_check_divisor => k_is)
      (case l_check_divisor => k_is)
      (case c_check_divisor => k_is)
      (case k_check_divisor => k_is)
      (case a_named => k_is)
      (case l_named => k_is)
      (case c_named => k_is)
      (case k_named => k_is)
      (case a_now => k_is)
      (case l_now => k_is)
      (case c_now => k_is)
      (case k_now => k_is)
      (case a_passed => k_is)
      (case l_passed => k_is)
      (case c_passed => k_is)
      (case k_passed => k_is)
      (case a_number => k_is)
      (case l_number => k_is)
      (case c_number => k_is)
      (case k_number => k_is)
      (case a_value_of => k_is)
      (case l_value_of => k_is)
      (case c_value_of => k_is)
      (case k_value_of => k_is)
      (case a_Value_UinitU => k_is)
      (case i_Value_UinitU => k_is)
      (case l_Value_UinitU => k_is)
      (case c_Value_UinitU => k_is)
      (case k_Value_UinitU => k_is)
      (case a_Value_UaddU => k_is)
      (case i_Value_UaddU => k_is)
      (case l_Value_UaddU => k_is)
      (case c_Value_UaddU => k_is)
      (case k_Value_UaddU => k_is)
      (case a_Value_UraddU => k_is)
      (case i_Value_UraddU => k_is)
      (case l_Value_UraddU => k_is)
      (case c_Value_UraddU => k_is)
      (case k_Value_UraddU => k_is)
      (case a_Value_UsubU => k_is)
      (case i_Value_UsubU => k_is)
      (case l_Value_UsubU => k_is)
      (case c_Value_UsubU => k_is)
      (case k_Value_UsubU => k_is)
      (case a_Value_UrsubU => k_is)
      (case i_Value_UrsubU => k_is)
      (case l_Value_UrsubU => k_is)
      (case c_Value_UrsubU => k_is)
      (case k_Value_UrsubU => k_is)
      (case a_Value_UmulU => k_is)
      (case i_Value_UmulU => k_is)
      (case l_Value_UmulU => k_is)
      (case c_Value_UmulU => k_is)
      (case k_Value_UmulU => k_is)
      (case a_Value_UrmulU => k_is)
      (case i_Value_UrmulU => k_is)
      (case l_Value_UrmulU => k_is)
      (case c_Value_UrmulU => k_is)
      (case k_Value_UrmulU => k_is)
      (case a_Value_UfloordivU => k_is)
      (case i_Value_UfloordivU => k_is)
      (case l_Value_UfloordivU => k_is)
      (case c_Value_UfloordivU => k_is)
      (case k_Value_UfloordivU => k_is)
      (case a_Value_UandU => k_is)
      (case i_Value_UandU => k_is)
      (case l_Value_UandU => k_is)
      (case c_Value_UandU => k_is)
      (case k_Value_UandU => k_is)
      (case a_Value_UrandU => k_is)
      (case i_Value_UrandU => k_is)
      (case l_Value_UrandU => k_is)
      (case c_Value_UrandU => k_is)
      (case k_Value_UrandU => k_is)
      (case a_Value_UorU => k_is)
      (case i_Value_UorU => k_is)
      (case l_Value_UorU => k_is)
      (case c_Value_UorU => k_is)
      (case k_Value_UorU => k_is)
      (case a_Value_UrorU => k_is)
      (case i_Value_UrorU => k_is)
      (case l_Value_UrorU => k_is)
      (case c_Value_UrorU => k_is)
      (case k_Value_UrorU => k_is)
      (case a_Value_UinvertU => k_is)
      (case i_Value_UinvertU => k_is)
      (case l_Value_UinvertU => k_is)
      (case c_Value_UinvertU => k_is)
      (case k_Value_UinvertU => k_is)
      (case a_Value_UeqU => k_is)
      (case i_Value_UeqU => k_is)
      (case l_Value_UeqU => k_is)
      (case c_Value_UeqU => k_is)
      (case k_Value_UeqU => k_is)
      (case a_Value_rest => k_is)
      (case i_Value_rest => k_is)
      (case l_Value_rest => k_is)
      (case c_Value_rest => k_is)
      (case k_Value_rest => k_is)
      (case a_Value_same => k_is)
      (case i_Value_same => k_is)
      (case l_Value_same => k_is)
      (case c_Value_same => k_is)
      (case k_Value_same => k_is)
      (case a_Value_less => k_is)
      (case i_Value_less => k_is)
      (case l_Value_less => k_is)
      (case c_Value_less => k_is)
      (case k_Value_less => k_is)
      (case a_law_well => k_is)
      (case l_law_well => k_is)
      (case c_law_well => k_is)
      (case k_law_well => k_is)
      (case a_law_take => k_is)
      (case l_law_take => k_is)
      (case c_law_take => k_is)
      (case k_law_take => k_is)
      (case a_law_cells => k_is)
      (case l_law_cells => k_is)
      (case c_law_cells => k_is)
      (case k_law_cells => k_is)
      (case a_law_integer => k_is)
      (case l_law_integer => k_is)
      (case c_law_integer => k_is)
      (case k_law_integer => k_is)
      (case a_law_recipe => k_is)
      (case l_law_recipe => k_is)
      (case c_law_recipe => k_is)
      (case k_law_recipe => k_is)
      (case a_law_signs => k_is)
      (case l_law_signs => k_is)
      (case c_law_signs => k_is)
      (case k_law_signs => k_is)
      (case a_law_joined => k_is)
      (case l_law_joined => k_is)
      (case c_law_joined => k_is)
      (case k_law_joined => k_is)
      (case a_law_side => k_is)
      (case l_law_side => k_is)
      (case c_law_side => k_is)
      (case k_law_side => k_is)
      (case a_law_built => k_is)
      (case l_law_built => k_is)
      (case c_law_built => k_is)
      (case k_law_built => k_is)
      (case a_law_leaf => k_is)
      (case l_law_leaf => k_is)
      (case c_law_leaf => k_is)
      (case k_law_leaf => k_is)
      (case a_law_changed => k_is)
      (case l_law_changed => k_is)
      (case c_law_changed => k_is)
      (case k_law_changed => k_is)
      (case a_law_both => k_is)
      (case l_law_both => k_is)
      (case c_law_both => k_is)
      (case k_law_both => k_is)
      (case a_law_fits => k_is)
      (case l_law_fits => k_is)
      (case c_law_fits => k_is)
      (case k_law_fits => k_is)
      (case a_law => k_is)
      (case l_law => k_is)
      (case c_law => k_is)
      (case k_law => k_is)
      (case tI => k_is)
      (case pg_Value => k_is)
      (case hd_Value => k_is)
      (case po_Value => k_is)
      (case sa_Value => k_is)
      (case mk_Value => k_is)
      (case kc_Value => k_is)
      (case n_Value_sign => k_is)
      (case n_Value_first => k_is)
      (case n_Value_second => k_is)
      (case ic_Value => k_is)
      (case im_Value => k_is)
      (case ty_Value => k_is)
      (case ig => k_is)
      (case it => k_is)
      (case oli_mul => k_is)
      (case ori_mul => k_is)
      (case oli_add => k_is)
      (case ori_add => k_is)
      (case oli_sub => k_is)
      (case ori_sub => k_is)
      (case oli_and => k_is)
      (case ori_and => k_is)
      (case oli_or => k_is)
      (case ori_or => k_is)
      (case oli_floordiv => k_is)
      (case ori_floordiv => k_is)
      (case orr_floordiv => k_is)
      (case sf => k_is)
      (case ni => k_is)
      (case no => k_is)
      (case neq_Value => k_is)
      (case kk_Value_NoneType => k_is)
      (case kk_Value_bool => k_is)
      (case kk_Value_int => k_is)
      (case kk_Value_str => k_is)
      (case kk_Value_list => k_is)
      (case kk_Value_tuple => k_is)
      (case kk_Value_dict => k_is)
      (case st_Value_tuple => k_is)
      (case xl_InvalidDivisor => k_is)
      (case xr_InvalidDivisor => rfl)
      (case xs_InvalidDivisor => k_is)
      (case xe_InvalidDivisor => k_is)
      (case xt_InvalidDivisor => k_is)
      (case xk_InvalidDivisor => k_is)
      (case xv_InvalidDivisor => k_is)
      (case xi_InvalidDivisor => k_is)
      (case xl_InvalidName => k_is)
      (case xr_InvalidName => rfl)
      (case xs_InvalidName => k_is)
      (case xe_InvalidName => k_is)
      (case xt_InvalidName => k_is)
      (case xk_InvalidName => k_is)
      (case xv_InvalidName => k_is)
      (case xi_InvalidName => k_is)
      (case k_LETTERS => k_is)
      (case kv_LETTERS => rfl)
      (case no_all => k_is)
      (case no_len => k_is)
      (case no_isinstance => k_is)
      (case no_int => k_is)
      (case no_abs => k_is)
      (case no_range => k_is)
      (case no_sum => k_is)
      (case no_tuple => k_is)
      (case no_enumerate => k_is)
      (case no_repr => k_is)
      (case no_max => k_is)
      (case no_min => k_is)
      (case dn_Value_RunError => decide)
      (case dn_Value_InvalidName => decide)
      (case dn_Value_UnknownName => decide)
      (case dn_Value_InvalidDivisor => decide)
      (case dn_RunError_InvalidName => decide)
      (case dn_RunError_UnknownName => decide)
      (case dn_RunError_InvalidDivisor => decide)
      (case dn_InvalidName_UnknownName => decide)
      (case dn_InvalidName_InvalidDivisor => decide)
      (case dn_UnknownName_InvalidDivisor => decide)
    have e := hmg.symm.trans ef
    cases e
    exact ⟨a.d_law, Lk.F_law a.c, bd, fun base _ _ => Lk.ok_law T, fun ns hn hb => Lk.law_holds a.c ok ns hn hb⟩
