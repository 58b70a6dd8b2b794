import PyProof.Rows.All
import Wide.All
import OpenK.AllK
import Wide.FinOn
import HandS.ForMost
import HandS.ForExc
import HandS.Lambda
import HandS.Wide
import HandS.Flow
import HandS.TupAny
import HandS.TupLe
import HandS.Style
import HandS.Deep
import HandS.Codes
import HandS.Zip
import HandS.Gcd
import HandS.IsInst
import HandS.Text
import HandS.Conv
import HandS.WordsDict
import HandS.RaiseMore
import KE.KMathG
import PyProof.StrBlock2
import HandS.WordsExc
import HandS.EndBits
import HandS.Dict
import HandS.Small
import HandS.Exc
import KE.KExcInit
import HandS.TryMany
import HandS.ExcIs
import PyProof.Rows.SumAny
import PyProof.WalksMore
import PyProof.Rows.StrOr
import KE.KIntText
import PyProof.ReprLen
import HandS.EndTab
import KE.KRevSl
import KE.KNest
import HandS.Defaults
import HandS.MakeKw
import HandS.MakeKwOnly
import HandS.Sort
import HandS.SortOrd
import HandS.SortRule
import KE.DataEq
import PyProof.EqKinds
import PyProof.FactsAll.dict
import PyProof.P3Eq
import PyProof.Rows.ReprOcc
import PyProof.Rows.StrIntSpec
import PyProof.EnumMake
import PyProof.Draws
import HandS.Zip0
import HandS.WideBits
import HandS.NoneIn
import PyProof.LongRange
import PySem.Challenge.RW_nevertwice_k92_overlaps_of_any_two_tiles
set_option Elab.async false
set_option maxRecDepth 100000
set_option maxHeartbeats 2000000
/-! ND1: data by value over HandS's abstract heap: D, Rep, the growth of a heap, the state of a body, expressions' and statements' judgements -/
namespace ND
open PySem PySem.Spec PyProof.Rows L2

/-- a value by value -/
inductive D where
  | non | bl (b : Bool) | int (i : Int) | str (x : Str)
  | tup (xs : List D) | lst (xs : List D)
  | dic (kvs : List (Key × D))
  | obj (C : Str) (fs : List (Str × D))
  | opq (v : V)

/-- the written part, the module's names -/
structure Kn where
  K : PySem.W.Frag
  mg : Str → Option Value
mutual
/-- v is d, by the frozen part F -/
inductive Rep (K : Kn) (F : Hp) : V → D → Prop
  | non : Rep K F .non .non
  | bl (b : Bool) : Rep K F (.bl b) (.bl b)
  | int (i : Int) : Rep K F (.int i) (.int i)
  | str (x : Str) : Rep K F (.str x) (.str x)
  | tup {a : Addr} {xs : List V} {ds : List D} : SqT K.K F a xs → Reps K F xs ds → Rep K F (.ref a) (.tup ds)
  | lst {a : Addr} {xs : List V} {ds : List D} : F a = some (.lst xs) → Reps K F xs ds → Rep K F (.ref a) (.lst ds)
  | dic {a : Addr} {kvs : List (Key × V)} {ds : List (Key × D)} : F a = some (.dK kvs) → RepKs K F kvs ds → Rep K F (.ref a) (.dic ds)
  | obj {a C dx : Addr} {n : Str} {fs : List (Str × V)} {ds : List (Str × D)} : K.mg n = some (.ref C) → F a = some (.ins C dx fs) → RepFs K F fs ds → Rep K F (.ref a) (.obj n ds)
  | opq (v : V) : Rep K F v (.opq v)
inductive Reps (K : Kn) (F : Hp) : List V → List D → Prop
  | nil : Reps K F [] []
  | cons {v : V} {vs : List V} {d : D} {ds : List D} : Rep K F v d → Reps K F vs ds → Reps K F (v :: vs) (d :: ds)
inductive RepKs (K : Kn) (F : Hp) : List (Key × V) → List (Key × D) → Prop
  | nil : RepKs K F [] []
  | cons {k : Key} {v : V} {vs : List (Key × V)} {d : D} {ds : List (Key × D)} : Rep K F v d → RepKs K F vs ds → RepKs K F ((k, v) :: vs) ((k, d) :: ds)
inductive RepFs (K : Kn) (F : Hp) : List (Str × V) → List (Str × D) → Prop
  | nil : RepFs K F [] []
  | cons {k : Str} {v : V} {vs : List (Str × V)} {d : D} {ds : List (Str × D)} : Rep K F v d → RepFs K F vs ds → RepFs K F ((k, v) :: vs) ((k, d) :: ds)
end

theorem same_t {K : PySem.W.Frag} {H H' : Hp} {a : Addr} {xs : List V} (e : Same H H') (h : SqT K H a xs) : SqT K H' a xs := by
  rcases h with (h | ⟨o, h⟩) | h
  · exact .inl (.inl (e _ _ h))
  · exact .inl (.inr ⟨o, e _ _ h⟩)
  · exact .inr h
theorem same_new {H : Hp} {p : Addr} {o : HO} (h : H p = none) : Same H (upd H p o) := fun b x e => by
  rw [upd_ne (ne_of_none e h)]
  exact e

mutual
theorem Rep.mono {K : Kn} {F F' : Hp} (e : Same F F') : ∀ {v : V} {d : D}, Rep K F v d → Rep K F' v d
  | _, _, .non => .non
  | _, _, .bl b => .bl b
  | _, _, .int i => .int i
  | _, _, .str x => .str x
  | _, _, .tup h r => .tup (same_t e h) (Reps.mono e r)
  | _, _, .lst h r => .lst (e _ _ h) (Reps.mono e r)
  | _, _, .dic h r => .dic (e _ _ h) (RepKs.mono e r)
  | _, _, .obj n h r => .obj n (e _ _ h) (RepFs.mono e r)
  | _, _, .opq v => .opq v
theorem Reps.mono {K : Kn} {F F' : Hp} (e : Same F F') : ∀ {v : List V} {d : List D}, Reps K F v d → Reps K F' v d
  | _, _, .nil => .nil
  | _, _, .cons r t => .cons (Rep.mono e r) (Reps.mono e t)
theorem RepKs.mono {K : Kn} {F F' : Hp} (e : Same F F') : ∀ {v : List (Key × V)} {d : List (Key × D)}, RepKs K F v d → RepKs K F' v d
  | _, _, .nil => .nil
  | _, _, .cons r t => .cons (Rep.mono e r) (RepKs.mono e t)
theorem RepFs.mono {K : Kn} {F F' : Hp} (e : Same F F') : ∀ {v : List (Str × V)} {d : List (Str × D)}, RepFs K F v d → RepFs K F' v d
  | _, _, .nil => .nil
  | _, _, .cons r t => .cons (Rep.mono e r) (RepFs.mono e t)
end

theorem Reps.length {K : Kn} {F : Hp} : ∀ {v : List V} {d : List D}, Reps K F v d → v.length = d.length
  | _, _, .nil => rfl
  | _, _, .cons _ t => by rw [List.length_cons, List.length_cons, Reps.length t]
theorem Reps.get {K : Kn} {F : Hp} : ∀ {v : List V} {d : List D} {i : Nat} {x : D}, Reps K F v d → d[i]? = some x → ∃ u, v[i]? = some u ∧ Rep K F u x
  | _, _, _, _, .nil, e => by simp at e
  | _, _, 0, x, .cons r _, e => by simp at e; subst e; exact ⟨_, rfl, r⟩
  | _, _, i + 1, x, .cons _ t, e => by
    obtain ⟨u, h1, h2⟩ := Reps.get (i := i) (x := x) t (by simpa using e)
    exact ⟨u, by simpa using h1, h2⟩
theorem Reps.append {K : Kn} {F : Hp} : ∀ {v v' : List V} {d d' : List D}, Reps K F v d → Reps K F v' d' → Reps K F (v ++ v') (d ++ d')
  | _, _, _, _, .nil, h => h
  | _, _, _, _, .cons r t, h => .cons r (Reps.append t h)
theorem Reps.take {K : Kn} {F : Hp} : ∀ {v : List V} {d : List D} (n : Nat), Reps K F v d → Reps K F (v.take n) (d.take n)
  | _, _, 0, _ => .nil
  | _, _, n + 1, .nil => .nil
  | _, _, n + 1, .cons r t => .cons r (Reps.take n t)
theorem Reps.drop {K : Kn} {F : Hp} : ∀ {v : List V} {d : List D} (n : Nat), Reps K F v d → Reps K F (v.drop n) (d.drop n)
  | _, _, 0, h => h
  | _, _, n + 1, .nil => .nil
  | _, _, n + 1, .cons _ t => Reps.drop n t
theorem Reps.reverse {K : Kn} {F : Hp} : ∀ {v : List V} {d : List D}, Reps K F v d → Reps K F v.reverse d.reverse
  | _, _, .nil => .nil
  | _, _, .cons r t => by
    rw [List.reverse_cons, List.reverse_cons]
    exact Reps.append (Reps.reverse t) (.cons r .nil)
theorem Reps.set {K : Kn} {F : Hp} {u : V} {x : D} (h : Rep K F u x) : ∀ {v : List V} {d : List D} (n : Nat), Reps K F v d → Reps K F (v.set n u) (d.set n x)
  | _, _, _, .nil => .nil
  | _, _, 0, .cons _ t => .cons h t
  | _, _, n + 1, .cons r t => .cons r (Reps.set h n t)
/-! ### the deck: the one object that calls change -/
abbrev WD := Option (Addr × Addr)
/-- the deck, the tables of the code objects of lambdas -/
structure WT where
  p : WD
  T : List (Addr × Str)
def InW (W : WT) (a : Addr) : Prop := (∃ p, W.p = some p ∧ (a = p.1 ∨ a = p.2)) ∨ ∃ x, x ∈ W.T ∧ a = x.1
/-- the dict at p.1 with the keys left (the list at p.2), mixed, draws -/
def deckO (l : Addr) (m n : Int) : HO := .dK [(.inr "cells", .ref l), (.inr "mixed", .int m), (.inr "draws", .int n)]
structure DeckAt (p : Addr × Addr) (F H : Hp) : Prop where
  fd : F p.1 = none
  fl : F p.2 = none
  ne : p.1 ≠ p.2
  st : ∃ (ns : List Int) (m n : Int), H p.1 = some (deckO p.2 m n) ∧ H p.2 = some (.lst (ns.map V.int)) ∧ ns.length ≤ 63 ∧ 0 ≤ m ∧ m < 2147483587
/-- no table -/
def NT (o : HO) : Prop := ∀ ps, o ≠ .tbl ps
structure DeckIn (W : WT) (F H : Hp) : Prop where
  dk : ∀ p, W.p = some p → DeckAt p F H
  tf : ∀ x, x ∈ W.T → F x.1 = none
  tb : LamX.Tabs W.T H
  nf : ∀ a o, F a = some o → NT o
  ot : ∀ a ps, H a = some (.tbl ps) → ∃ x, x ∈ W.T ∧ a = x.1
theorem DeckIn.w {W : WT} {F H : Hp} {a : Addr} (h : DeckIn W F H) (w : InW W a) : F a = none ∧ H a ≠ none := by
  rcases w with ⟨p, e0, e⟩ | ⟨x, hx, rfl⟩
  · have z := h.dk p e0
    obtain ⟨ns, m, n, h1, h2, _⟩ := z.st
    rcases e with e | e <;> subst e
    · exact ⟨z.fd, by rw [h1]; exact Option.some_ne_none _⟩
    · exact ⟨z.fl, by rw [h2]; exact Option.some_ne_none _⟩
  · obtain ⟨ps, h1, _⟩ := h.tb x hx
    exact ⟨h.tf x hx, by rw [h1]; exact Option.some_ne_none _⟩
/-- the deck stands where its objects stand -/
theorem DeckIn.keep {W : WT} {F H F' H' : Hp} (h : DeckIn W F H) (hf : ∀ a, InW W a → F' a = F a) (hh : ∀ a, InW W a → H' a = H a) (ex : ∀ a φ, H a = some (.ext φ) → H' a = some (.ext φ)) (nf : ∀ a o, F' a = some o → NT o) (ot : ∀ a ps, H' a = some (.tbl ps) → H a = some (.tbl ps)) : DeckIn W F' H' :=
  ⟨fun p e => by
    have z := h.dk p e
    have i1 : InW W p.1 := .inl ⟨p, e, .inl rfl⟩
    have i2 : InW W p.2 := .inl ⟨p, e, .inr rfl⟩
    obtain ⟨ns, m, n, h1, h2, r⟩ := z.st
    exact ⟨by rw [hf _ i1]; exact z.fd, by rw [hf _ i2]; exact z.fl, z.ne, ns, m, n, by rw [hh _ i1]; exact h1, by rw [hh _ i2]; exact h2, r⟩,
  fun x hx => by
    rw [hf _ (.inr ⟨x, hx, rfl⟩)]
    exact h.tf x hx,
  fun x hx => by
    obtain ⟨ps, h1, h2, h3⟩ := h.tb x hx
    refine ⟨ps, by rw [hh _ (.inr ⟨x, hx, rfl⟩)]; exact h1, h2, fun pos cv hc => ?_⟩
    obtain ⟨c, e1, e2⟩ := h3 pos cv hc
    exact ⟨c, e1, ex c _ e2⟩, nf, fun a ps e => h.ot a ps (ot a ps e)⟩
theorem ot_upd {H : Hp} {p : Addr} {o : HO} (n : NT o) : ∀ a ps, upd H p o a = some (.tbl ps) → H a = some (.tbl ps) := fun a ps e => by
  by_cases z : a = p
  · subst z
    rw [upd_same] at e
    cases e
    exact absurd rfl (n ps)
  · rw [upd_ne z] at e
    exact e
theorem nf_upd {F : Hp} {p : Addr} {o : HO} (h : ∀ a o, F a = some o → NT o) (n : NT o) : ∀ a u, upd F p o a = some u → NT u := fun a u e => by
  by_cases z : a = p
  · subst z
    rw [upd_same] at e
    cases e
    exact n
  · rw [upd_ne z] at e
    exact h a u e

/-! ### growth -/
structure Grow (W : WT) (F H F' H' : Hp) : Prop where
  ff : Same F F'
  fh : Same F' H'
  hh : ∀ a o, H a = some o → ¬ InW W a → NT o → H' a = some o
  new : ∀ a, F a = none → H a ≠ none → F' a = none
  keep : ∀ a, H a ≠ none → H' a ≠ none
section
variable {W : WT} {F H F1 H1 F2 H2 : Hp} {p : Addr} {o : HO}
theorem Grow.refl (h : Same F H) : Grow W F H F H := ⟨Same.refl F, h, fun _ _ e _ _ => e, fun _ e _ => e, fun _ e => e⟩
theorem Grow.trans (a : Grow W F H F1 H1) (b : Grow W F1 H1 F2 H2) : Grow W F H F2 H2 :=
  ⟨a.ff.trans b.ff, b.fh, fun x o e w n => b.hh x o (a.hh x o e w n) w n, fun x e n => b.new x (a.new x e n) (a.keep x n), fun x n => b.keep x (a.keep x n)⟩
theorem Grow.back (g : Grow W F H F1 H1) {a : Addr} (h : H1 a = none) : H a = none := by
  cases e : H a with
  | none => rfl
  | some o => exact absurd h (g.keep a (by rw [e]; exact Option.some_ne_none _))
theorem upd_keep {H : Hp} {p a : Addr} {o : HO} (h : H a ≠ none) : upd H p o a ≠ none := by
  by_cases e : a = p
  · subst e
    rw [upd_same]
    exact Option.some_ne_none _
  · rw [upd_ne e]
    exact h
/-- a new tracked object -/
theorem Grow.laid (e : Same F H) (h : H p = none) : Grow W F H F (upd H p o) :=
  ⟨Same.refl F, e.trans (same_new h), fun a u q _ _ => same_new h a u q, fun _ q _ => q, fun _ q => upd_keep q⟩
theorem same_upd2 (e : Same F H) : Same (upd F p o) (upd H p o) := fun a u q => by
  by_cases z : a = p
  · subst z
    rw [upd_same] at q ⊢
    exact q
  · rw [upd_ne z] at q ⊢
    exact e a u q
/-- a new frozen object -/
theorem Grow.frz (e : Same F H) (h : H p = none) : Grow W F H (upd F p o) (upd H p o) :=
  ⟨same_new (e.free h), same_upd2 e, fun a u q _ _ => same_new h a u q, fun a q n => by
    have z : a ≠ p := fun z => n (by rw [z]; exact h)
    rw [upd_ne z]
    exact q, fun _ q => upd_keep q⟩
/-- what is new and tracked becomes frozen -/
theorem Grow.freeze {F' H' : Hp} (g : Grow W F H F' H') (hp : H p = none) (fp : F' p = none) (h : H' p = some o) : Grow W F H (upd F' p o) H' :=
  ⟨g.ff.trans (same_new fp), fun a u q => by
    by_cases z : a = p
    · subst z
      rw [upd_same] at q
      rw [h]
      exact q
    · rw [upd_ne z] at q
      exact g.fh a u q, g.hh, fun a q n => by
    have z : a ≠ p := fun z => n (by rw [z]; exact hp)
    rw [upd_ne z]
    exact g.new a q n, g.keep⟩
theorem DeckIn.freeze {F' H' : Hp} (d0 : DeckIn W F H) (d : DeckIn W F' H') (hp : H p = none) (nt : NT o := by intro _ z; cases z) : DeckIn W (upd F' p o) H' :=
  d.keep (fun a w => upd_ne fun z => (d0.w w).2 (by rw [z]; exact hp)) (fun _ _ => rfl) (fun _ _ e => e) (nf_upd d.nf nt) fun _ _ e => e
theorem DeckIn.laid (d : DeckIn W F H) (h : H p = none) (nt : NT o := by intro _ z; cases z) : DeckIn W F (upd H p o) :=
  d.keep (fun _ _ => rfl) (fun a w => upd_ne fun z => (d.w w).2 (by rw [z]; exact h)) (fun a φ e => by rw [upd_ne (ne_of_none e h)]; exact e) d.nf (ot_upd nt)
theorem DeckIn.frz (d : DeckIn W F H) (h : H p = none) (nt : NT o := by intro _ z; cases z) : DeckIn W (upd F p o) (upd H p o) :=
  d.keep (fun a w => upd_ne fun z => (d.w w).2 (by rw [z]; exact h)) (fun a w => upd_ne fun z => (d.w w).2 (by rw [z]; exact h)) (fun a φ e => by rw [upd_ne (ne_of_none e h)]; exact e) (nf_upd d.nf nt) (ot_upd nt)
end

/-! ### the state of a body -/
/-- a slot: nothing known, data, a list or a dict of one's own -/
inductive SV where
  | no | d (x : D) | ol (xs : List D) | od (kvs : List (Key × D))
  | oo (p : Addr) (C : Str) (fs : List (Str × D))
/-- where a body began -/
structure Bs where
  W : WT
  F : Hp
  H : Hp
def SlotR (K : Kn) (F H : Hp) : SV → Option Addr → Option V → Prop
  | .no, none, _ => True
  | .d x, none, some v => Rep K F v x
  | .ol xs, some a, some v => v = .ref a ∧ ∃ vs, H a = some (.lst vs) ∧ Reps K F vs xs
  | .od ks, some a, some v => v = .ref a ∧ ∃ vs, H a = some (.dK vs) ∧ RepKs K F vs ks
  | .oo p n fs, some a, some v => a = p ∧ v = .ref a ∧ ∃ C dx vs, K.mg n = some (.ref C) ∧ H a = some (.ins C dx vs) ∧ RepFs K F vs fs
  | _, _, _ => False
structure Own (B : Bs) (F : Hp) (own : Nat → Option Addr) : Prop where
  inj : ∀ i j a, own i = some a → own j = some a → i = j
  free : ∀ i a, own i = some a → B.H a = none ∧ F a = none
structure Rel (B : Bs) (K : Kn) (σ : List SV) (s : L2.St) (F H : Hp) : Prop where
  base : Grow B.W B.F B.H F H
  bdk : DeckIn B.W B.F B.H
  deck : DeckIn B.W F H
  len : σ.length = s.length
  slots : ∃ own, Own B F own ∧ ∀ (i : Nat) x v, σ[i]? = some x → s[i]? = some v → SlotR K F H x (own i) v
section
variable {B : Bs} {K : Kn} {σ : List SV} {s : L2.St} {F H F' H' : Hp}
theorem Rel.ex (R : Rel B K σ s F H) : Same F H := R.base.fh
theorem Own.notW {own : Nat → Option Addr} (O : Own B F own) (R : DeckIn B.W B.F B.H) {i : Nat} {a : Addr} (h : own i = some a) : ¬ InW B.W a := fun w => (R.w w).2 (O.free i a h).1
theorem SlotR.mono {x : SV} {w : Option Addr} {v : Option V} (h : SlotR K F H x w v) (e : Same F F') (k : ∀ a o, w = some a → H a = some o → NT o → H' a = some o) : SlotR K F' H' x w v := by
  cases x <;> cases w <;> cases v <;> first
    | exact h
    | exact False.elim h
    | skip
  · exact Rep.mono e h
  · obtain ⟨h1, vs, h2, h3⟩ := h
    exact ⟨h1, vs, k _ _ rfl h2 (by intro _ z; cases z), Reps.mono e h3⟩
  · obtain ⟨h1, vs, h2, h3⟩ := h
    exact ⟨h1, vs, k _ _ rfl h2 (by intro _ z; cases z), RepKs.mono e h3⟩
  · obtain ⟨h0, h1, C, dx, vs, hn, h2, h3⟩ := h
    exact ⟨h0, h1, C, dx, vs, hn, k _ _ rfl h2 (by intro _ z; cases z), RepFs.mono e h3⟩
theorem SlotR.there {x : SV} {a : Addr} {v : Option V} (h : SlotR K F H x (some a) v) : H a ≠ none := by
  cases x <;> cases v <;> first
    | exact False.elim h
    | (obtain ⟨_, vs, h2, _⟩ := h; rw [h2]; exact Option.some_ne_none _)
    | (obtain ⟨_, _, C, dx, vs, _, h2, _⟩ := h; rw [h2]; exact Option.some_ne_none _)
theorem Rel.grow (R : Rel B K σ s F H) (g : Grow B.W F H F' H') (d : DeckIn B.W F' H') : Rel B K σ s F' H' := by
  obtain ⟨own, O, h⟩ := R.slots
  have key : ∀ i x, σ[i]? = some x → ∃ v, s[i]? = some v := fun i x e => by
    have h1 : i < s.length := by rw [← R.len]; exact (List.getElem?_eq_some_iff.mp e).1
    exact ⟨s[i], List.getElem?_eq_getElem h1⟩
  -- an owned address out of the slots is of no use: forget it
  refine ⟨R.base.trans g, R.bdk, d, R.len, fun i => if i < σ.length then own i else none, ⟨fun i j a e1 e2 => ?_, fun i a e => ?_⟩, fun i x v e1 e2 => ?_⟩
  · split at e1 <;> split at e2 <;> first | exact O.inj i j a e1 e2 | cases e1 | cases e2
  · split at e
    · rename_i hi
      obtain ⟨h1, h2⟩ := O.free i a e
      refine ⟨h1, g.new a h2 ?_⟩
      obtain ⟨v, ev⟩ := key i σ[i] (by simp [hi])
      have q := h i σ[i] v (by simp [hi]) ev
      rw [e] at q
      exact q.there
    · cases e
  · have hi : i < σ.length := (List.getElem?_eq_some_iff.mp e1).1
    dsimp only
    rw [if_pos hi]
    exact (h i x v e1 e2).mono g.ff fun a o e q n => g.hh a o q (O.notW R.bdk e) n
/-- a slot takes data -/
theorem Rel.set (R : Rel B K σ s F H) {i : Nat} {v : V} {x : D} (h : Rep K F v x) : Rel B K (σ.set i (.d x)) (s.set i (some v)) F H := by
  obtain ⟨own, O, q⟩ := R.slots
  refine ⟨R.base, R.bdk, R.deck, by rw [List.length_set, List.length_set]; exact R.len, fun j => if j = i then none else own j, ⟨fun a b c e1 e2 => ?_, fun a b e => ?_⟩, fun j y u e1 e2 => ?_⟩
  · split at e1 <;> split at e2 <;> first | exact O.inj a b c e1 e2 | cases e1 | cases e2
  · split at e
    · cases e
    · exact O.free a b e
  · by_cases z : j = i
    · subst z
      have h1 : j < σ.length := by
        have := (List.getElem?_eq_some_iff.mp e1).1
        rwa [List.length_set] at this
      have h2 : j < s.length := by rw [← R.len]; exact h1
      rw [List.getElem?_set_self h1] at e1
      rw [List.getElem?_set_self h2] at e2
      cases e1
      cases e2
      dsimp only
      rw [if_pos rfl]
      exact h
    · rw [List.getElem?_set_ne (Ne.symm z)] at e1 e2
      dsimp only
      rw [if_neg z]
      exact q j y u e1 e2
/-- a slot is forgotten -/
theorem Rel.drop (R : Rel B K σ s F H) {i : Nat} {v : Option V} : Rel B K (σ.set i .no) (s.set i v) F H := by
  obtain ⟨own, O, q⟩ := R.slots
  refine ⟨R.base, R.bdk, R.deck, by rw [List.length_set, List.length_set]; exact R.len, fun j => if j = i then none else own j, ⟨fun a b c e1 e2 => ?_, fun a b e => ?_⟩, fun j y u e1 e2 => ?_⟩
  · split at e1 <;> split at e2 <;> first | exact O.inj a b c e1 e2 | cases e1 | cases e2
  · split at e
    · cases e
    · exact O.free a b e
  · by_cases z : j = i
    · subst z
      have h1 : j < σ.length := by
        have := (List.getElem?_eq_some_iff.mp e1).1
        rwa [List.length_set] at this
      rw [List.getElem?_set_self h1] at e1
      cases e1
      dsimp only
      rw [if_pos rfl]
      trivial
    · rw [List.getElem?_set_ne (Ne.symm z)] at e1 e2
      dsimp only
      rw [if_neg z]
      exact q j y u e1 e2
/-- a slot takes a new object of one's own -/
theorem Rel.setNew (R : Rel B K σ s F H) {i : Nat} {p : Addr} {x : SV} (g : Grow B.W F H F' H') (dk : DeckIn B.W F' H') (hp : H p = none) (fp : F' p = none) (h : SlotR K F' H' x (some p) (some (.ref p))) : Rel B K (σ.set i x) (s.set i (some (.ref p))) F' H' := by
  have R2 := R.grow g dk
  obtain ⟨own, O, q⟩ := R.slots
  have nop : ∀ j a, j < σ.length → own j = some a → H a ≠ none := fun j a hj e => by
    have h2 : j < s.length := by rw [← R.len]; exact hj
    have w := q j σ[j] s[j] (by simp [hj]) (by simp [h2])
    rw [e] at w
    exact w.there
  have bp : B.H p = none := R.base.back hp
  refine ⟨R2.base, R.bdk, R2.deck, by rw [List.length_set, List.length_set]; exact R.len, fun j => if j = i then some p else if j < σ.length then own j else none, ⟨fun a b c e1 e2 => ?_, fun a b e => ?_⟩, fun j y u e1 e2 => ?_⟩
  · split at e1 <;> split at e2 <;> (try split at e1) <;> (try split at e2) <;> (try cases e1) <;> (try cases e2) <;> (try subst_vars) <;> first
      | rfl
      | exact absurd hp (nop _ _ (by assumption) (by assumption))
      | (exact O.inj _ _ _ (by assumption) (by assumption))
  · split at e
    · cases e
      exact ⟨bp, fp⟩
    · split at e
      · rename_i hl
        obtain ⟨h1, h2⟩ := O.free a b e
        exact ⟨h1, g.new b h2 (nop a b hl e)⟩
      · cases e
  · by_cases z : j = i
    · subst z
      have h1 : j < σ.length := by
        have := (List.getElem?_eq_some_iff.mp e1).1
        rwa [List.length_set] at this
      have h2 : j < s.length := by rw [← R.len]; exact h1
      rw [List.getElem?_set_self h1] at e1
      rw [List.getElem?_set_self h2] at e2
      cases e1
      cases e2
      dsimp only
      rw [if_pos rfl]
      exact h
    · rw [List.getElem?_set_ne (Ne.symm z)] at e1 e2
      have hj : j < σ.length := (List.getElem?_eq_some_iff.mp e1).1
      dsimp only
      rw [if_neg z, if_pos hj]
      exact (q j y u e1 e2).mono g.ff fun a o' e w n => g.hh a o' w (O.notW R.bdk e) n
/-- what a slot with an object of one's own holds -/
theorem Rel.ownL (R : Rel B K σ s F H) {i : Nat} {xs : List D} (h : σ[i]? = some (.ol xs)) : ∃ a vs, s[i]? = some (some (.ref a)) ∧ H a = some (.lst vs) ∧ Reps K F vs xs ∧ ¬ InW B.W a ∧ F a = none ∧ B.H a = none := by
  obtain ⟨own, O, q⟩ := R.slots
  have h1 : i < s.length := by rw [← R.len]; exact (List.getElem?_eq_some_iff.mp h).1
  have w := q i _ s[i] h (by simp [h1])
  cases e : own i with
  | none =>
    rw [e] at w
    exact False.elim (by cases s[i] <;> exact w)
  | some a =>
    rw [e] at w
    cases e2 : s[i] with
    | none =>
      rw [e2] at w
      exact False.elim w
    | some v =>
      rw [e2] at w
      obtain ⟨rfl, vs, h2, h3⟩ := w
      exact ⟨a, vs, by rw [List.getElem?_eq_getElem h1, e2], h2, h3, O.notW R.bdk e, (O.free i a e).2, (O.free i a e).1⟩
theorem Rel.ownD (R : Rel B K σ s F H) {i : Nat} {xs : List (Key × D)} (h : σ[i]? = some (.od xs)) : ∃ a vs, s[i]? = some (some (.ref a)) ∧ H a = some (.dK vs) ∧ RepKs K F vs xs ∧ ¬ InW B.W a ∧ F a = none ∧ B.H a = none := by
  obtain ⟨own, O, q⟩ := R.slots
  have h1 : i < s.length := by rw [← R.len]; exact (List.getElem?_eq_some_iff.mp h).1
  have w := q i _ s[i] h (by simp [h1])
  cases e : own i with
  | none =>
    rw [e] at w
    exact False.elim (by cases s[i] <;> exact w)
  | some a =>
    rw [e] at w
    cases e2 : s[i] with
    | none =>
      rw [e2] at w
      exact False.elim w
    | some v =>
      rw [e2] at w
      obtain ⟨rfl, vs, h2, h3⟩ := w
      exact ⟨a, vs, by rw [List.getElem?_eq_getElem h1, e2], h2, h3, O.notW R.bdk e, (O.free i a e).2, (O.free i a e).1⟩
theorem Rel.dat (R : Rel B K σ s F H) {i : Nat} {x : D} (h : σ[i]? = some (.d x)) : ∃ v, s[i]? = some (some v) ∧ Rep K F v x := by
  obtain ⟨own, O, q⟩ := R.slots
  have h1 : i < s.length := by rw [← R.len]; exact (List.getElem?_eq_some_iff.mp h).1
  have w := q i _ s[i] h (by simp [h1])
  cases e : own i with
  | some a =>
    rw [e] at w
    exact False.elim (by cases s[i] <;> exact w)
  | none =>
    rw [e] at w
    cases e2 : s[i] with
    | none =>
      rw [e2] at w
      exact False.elim w
    | some v =>
      rw [e2] at w
      exact ⟨v, by rw [List.getElem?_eq_getElem h1, e2], w⟩
/-- an object of one's own is written -/
theorem Rel.write (R : Rel B K σ s F H) {i : Nat} {a : Addr} {o : HO} {x y : SV} (hx : σ[i]? = some y) (hy : (∃ xs, y = .ol xs) ∨ (∃ ks, y = .od ks) ∨ ∃ p n fs, y = .oo p n fs) (hs : s[i]? = some (some (.ref a))) (h : SlotR K F (upd H a o) x (some a) (some (.ref a))) (nt : NT o := by intro _ z; cases z) : Rel B K (σ.set i x) s F (upd H a o) := by
  obtain ⟨own, O, q⟩ := R.slots
  have w := q i _ _ hx hs
  have hi : i < σ.length := (List.getElem?_eq_some_iff.mp hx).1
  have eo : own i = some a := by
    cases e : own i with
    | none =>
      rw [e] at w
      rcases hy with ⟨_, rfl⟩ | ⟨_, rfl⟩ | ⟨_, _, _, rfl⟩ <;> exact False.elim w
    | some b =>
      rw [e] at w
      rcases hy with ⟨_, rfl⟩ | ⟨_, rfl⟩ | ⟨_, _, _, rfl⟩
      · obtain ⟨e2, _⟩ := w
        cases e2
        rfl
      · obtain ⟨e2, _⟩ := w
        cases e2
        rfl
      · obtain ⟨_, e2, _⟩ := w
        cases e2
        rfl
  obtain ⟨b0, f0⟩ := O.free i a eo
  have nw := O.notW R.bdk eo
  have nx : ∀ φ, H a ≠ some (.ext φ) := fun φ z => by
    rw [eo] at w
    rcases hy with ⟨_, rfl⟩ | ⟨_, rfl⟩ | ⟨_, _, _, rfl⟩
    · obtain ⟨_, _, e2, _⟩ := w
      rw [z] at e2
      cases e2
    · obtain ⟨_, _, e2, _⟩ := w
      rw [z] at e2
      cases e2
    · obtain ⟨_, _, _, _, _, _, e2, _⟩ := w
      rw [z] at e2
      cases e2
  have nb : ∀ b u, B.H b = some u → b ≠ a := fun b u e z => by rw [z, b0] at e; cases e
  refine ⟨⟨R.base.ff, fun b u e => ?_, fun b u e n nt' => ?_, R.base.new, fun b n => upd_keep (R.base.keep b n)⟩, R.bdk, R.deck.keep (fun _ _ => rfl) (fun b z => upd_ne fun e => nw (by rw [← e]; exact z)) (fun b φ e => by rw [upd_ne (fun z => nx φ (by rw [← z]; exact e))]; exact e) R.deck.nf (ot_upd nt), by rw [List.length_set]; exact R.len, own, O, fun j y' u e1 e2 => ?_⟩
  · have z : b ≠ a := fun z => by rw [z, f0] at e; cases e
    rw [upd_ne z]
    exact R.ex b u e
  · rw [upd_ne (nb b u e)]
    exact R.base.hh b u e n nt'
  · by_cases z : j = i
    · subst z
      rw [List.getElem?_set_self hi] at e1
      cases e1
      rw [hs] at e2
      cases e2
      rw [eo]
      exact h
    · rw [List.getElem?_set_ne (Ne.symm z)] at e1
      refine (q j y' u e1 e2).mono (Same.refl F) fun c o' e k _ => ?_
      have nc : c ≠ a := fun z' => z (O.inj j i c e (by rw [z']; exact eo))
      rw [upd_ne nc]
      exact k
/-- an object of one's own becomes data -/
theorem Rel.freeze (R : Rel B K σ s F H) {i : Nat} {a : Addr} {o : HO} {y : SV} {x : D} (hx : σ[i]? = some y) (hs : s[i]? = some (some (.ref a))) (ha : H a = some o) (hf : F a = none) (hb : B.H a = none) (hw : ¬ InW B.W a) (hy : (∃ xs, y = .ol xs) ∨ (∃ ks, y = .od ks) ∨ ∃ p n fs, y = .oo p n fs)
    (h : Rep K (upd F a o) (.ref a) x) (nt : NT o := by intro _ z; cases z) : Rel B K (σ.set i (.d x)) s (upd F a o) H := by
  obtain ⟨own, O, q⟩ := R.slots
  have hi : i < σ.length := (List.getElem?_eq_some_iff.mp hx).1
  have w := q i _ _ hx hs
  have eo : own i = some a := by
    cases e : own i with
    | none =>
      rw [e] at w
      rcases hy with ⟨_, rfl⟩ | ⟨_, rfl⟩ | ⟨_, _, _, rfl⟩ <;> exact False.elim w
    | some b =>
      rw [e] at w
      rcases hy with ⟨_, rfl⟩ | ⟨_, rfl⟩ | ⟨_, _, _, rfl⟩
      · obtain ⟨e2, _⟩ := w
        cases e2
        rfl
      · obtain ⟨e2, _⟩ := w
        cases e2
        rfl
      · obtain ⟨_, e2, _⟩ := w
        cases e2
        rfl
  have sm : Same F (upd F a o) := same_new hf
  refine ⟨⟨R.base.ff.trans sm, fun b u e => ?_, R.base.hh, fun b e n => ?_, R.base.keep⟩, R.bdk, R.deck.keep (fun b z => upd_ne fun e => hw (by rw [← e]; exact z)) (fun _ _ => rfl) (fun _ _ e => e) (nf_upd R.deck.nf nt) fun _ _ e => e, by rw [List.length_set]; exact R.len,
    fun j => if j = i then none else own j, ⟨fun b c d e1 e2 => ?_, fun b c e => ?_⟩, fun j y' u e1 e2 => ?_⟩
  · by_cases z : b = a
    · subst z
      rw [upd_same] at e
      rw [ha]
      exact e
    · rw [upd_ne z] at e
      exact R.ex b u e
  · have z : b ≠ a := fun z => n (by rw [z]; exact hb)
    rw [upd_ne z]
    exact R.base.new b e n
  · split at e1 <;> split at e2 <;> first | exact O.inj b c d e1 e2 | cases e1 | cases e2
  · split at e
    · cases e
    · rename_i nz
      obtain ⟨h1, h2⟩ := O.free b c e
      refine ⟨h1, ?_⟩
      have z : c ≠ a := fun z => nz (O.inj b i c e (by rw [z]; exact eo))
      rw [upd_ne z]
      exact h2
  · by_cases z : j = i
    · subst z
      rw [List.getElem?_set_self hi] at e1
      cases e1
      rw [hs] at e2
      cases e2
      dsimp only
      rw [if_pos rfl]
      exact h
    · rw [List.getElem?_set_ne (Ne.symm z)] at e1
      dsimp only
      rw [if_neg z]
      exact (q j y' u e1 e2).mono sm fun _ _ _ k _ => k
end
end ND

/-! ND2: expressions -/
namespace ND
open PySem PySem.Spec L2

/-! ### judgements -/
abbrev _root_.L2.Cx.kn (X : Cx) : Kn := ⟨X.K, X.mg⟩
abbrev GE := List SV → (D → Prop) → Prop
abbrev GT := List SV → (Bool → Prop) → Prop
abbrev GA := List SV → (List D → Prop) → Prop
/-- what is borrowed: data, or an object of one's own as it stands -/
def RepB (W : WT) (K : Kn) (F H : Hp) (v : V) (d : D) : Prop :=
  Rep K F v d ∨ (∃ a ds vs, v = .ref a ∧ d = .lst ds ∧ ¬ InW W a ∧ H a = some (.lst vs) ∧ Reps K F vs ds) ∨ ∃ a ds vs, v = .ref a ∧ d = .dic ds ∧ ¬ InW W a ∧ H a = some (.dK vs) ∧ RepKs K F vs ds
theorem RepB.grow {W : WT} {K : Kn} {F H F' H' : Hp} {v : V} {d : D} (h : RepB W K F H v d) (g : Grow W F H F' H') : RepB W K F' H' v d := by
  rcases h with h | ⟨a, ds, vs, e1, e2, n, e3, r⟩ | ⟨a, ds, vs, e1, e2, n, e3, r⟩
  · exact .inl (h.mono g.ff)
  · exact .inr (.inl ⟨a, ds, vs, e1, e2, n, g.hh _ _ e3 n (by intro _ z; cases z), r.mono g.ff⟩)
  · exact .inr (.inr ⟨a, ds, vs, e1, e2, n, g.hh _ _ e3 n (by intro _ z; cases z), r.mono g.ff⟩)
theorem RepB.lst {W : WT} {K : Kn} {F H : Hp} {v : V} {ds : List D} (h : RepB W K F H v (.lst ds)) (e : Same F H) : ∃ a vs, v = .ref a ∧ H a = some (.lst vs) ∧ Reps K F vs ds := by
  rcases h with h | ⟨a, ds', vs, e1, e2, n, e3, r⟩ | ⟨a, ds', vs, e1, e2, n, e3, r⟩
  · cases h with
    | lst h r => exact ⟨_, _, rfl, e _ _ h, r⟩
  · cases e2
    exact ⟨a, vs, e1, e3, r⟩
  · cases e2
theorem RepB.dic {W : WT} {K : Kn} {F H : Hp} {v : V} {ds : List (Key × D)} (h : RepB W K F H v (.dic ds)) (e : Same F H) : ∃ a vs, v = .ref a ∧ H a = some (.dK vs) ∧ RepKs K F vs ds := by
  rcases h with h | ⟨a, ds', vs, e1, e2, n, e3, r⟩ | ⟨a, ds', vs, e1, e2, n, e3, r⟩
  · cases h with
    | dic h r => exact ⟨_, _, rfl, e _ _ h, r⟩
  · cases e2
  · cases e2
    exact ⟨a, vs, e1, e3, r⟩
theorem RepB.tup {W : WT} {K : Kn} {F H : Hp} {v : V} {ds : List D} (h : RepB W K F H v (.tup ds)) (e : Same F H) : ∃ a vs, v = .ref a ∧ SqT K.K F a vs ∧ SqT K.K H a vs ∧ Reps K F vs ds := by
  rcases h with h | ⟨a, ds', vs, e1, e2, n, e3, r⟩ | ⟨a, ds', vs, e1, e2, n, e3, r⟩
  · cases h with
    | tup h r => exact ⟨_, _, rfl, h, same_t e h, r⟩
  · cases e2
  · cases e2
theorem RepB.int {W : WT} {K : Kn} {F H : Hp} {v : V} {i : Int} (h : RepB W K F H v (.int i)) : v = .int i := by
  rcases h with h | ⟨a, ds', vs, e1, e2, n, e3, r⟩ | ⟨a, ds', vs, e1, e2, n, e3, r⟩
  · cases h
    rfl
  · cases e2
  · cases e2
theorem RepB.bl {W : WT} {K : Kn} {F H : Hp} {v : V} {i : Bool} (h : RepB W K F H v (.bl i)) : v = .bl i := by
  rcases h with h | ⟨a, ds', vs, e1, e2, n, e3, r⟩ | ⟨a, ds', vs, e1, e2, n, e3, r⟩
  · cases h
    rfl
  · cases e2
  · cases e2
theorem RepB.str {W : WT} {K : Kn} {F H : Hp} {v : V} {i : Str} (h : RepB W K F H v (.str i)) : v = .str i := by
  rcases h with h | ⟨a, ds', vs, e1, e2, n, e3, r⟩ | ⟨a, ds', vs, e1, e2, n, e3, r⟩
  · cases h
    rfl
  · cases e2
  · cases e2
theorem RepB.non {W : WT} {K : Kn} {F H : Hp} {v : V} (h : RepB W K F H v .non) : v = .non := by
  rcases h with h | ⟨a, ds', vs, e1, e2, n, e3, r⟩ | ⟨a, ds', vs, e1, e2, n, e3, r⟩
  · cases h
    rfl
  · cases e2
  · cases e2
theorem RepB.opq {W : WT} {K : Kn} {F H : Hp} {v u : V} (h : RepB W K F H v (.opq u)) : v = u := by
  rcases h with h | ⟨a, ds', vs, e1, e2, n, e3, r⟩ | ⟨a, ds', vs, e1, e2, n, e3, r⟩
  · cases h
    rfl
  · cases e2
  · cases e2
theorem RepB.obj {W : WT} {K : Kn} {F H : Hp} {v : V} {n : Str} {ds : List (Str × D)} (h : RepB W K F H v (.obj n ds)) (e : Same F H) : ∃ a C dx fs, K.mg n = some (.ref C) ∧ v = .ref a ∧ H a = some (.ins C dx fs) ∧ RepFs K F fs ds := by
  rcases h with h | ⟨a, ds', vs, e1, e2, n, e3, r⟩ | ⟨a, ds', vs, e1, e2, n, e3, r⟩
  · cases h with
    | obj n h r => exact ⟨_, _, _, _, n, rfl, e _ _ h, r⟩
  · cases e2
  · cases e2

/-- the data Qd are wanted: so is Q of each value that is one of them -/
def Fin (B : Bs) (K : Kn) (F H : Hp) (Qd : D → Prop) (Q : VK) : Prop := ∀ d, Qd d → ∀ F' H' v, Grow B.W F H F' H' → DeckIn B.W F' H' → Rep K F' v d → Q v H'
def FinB (B : Bs) (K : Kn) (F H : Hp) (Qd : D → Prop) (Q : VK) : Prop := ∀ d, Qd d → ∀ F' H' v, Grow B.W F H F' H' → DeckIn B.W F' H' → RepB B.W K F' H' v d → Q v H'
def FinT (B : Bs) (F H : Hp) (Qd : Bool → Prop) (Q : Bool → Hp → Prop) : Prop := ∀ b, Qd b → ∀ F' H', Grow B.W F H F' H' → DeckIn B.W F' H' → Q b H'
def FinA (B : Bs) (K : Kn) (F H : Hp) (Qd : List D → Prop) (Q : List V → Hp → Prop) : Prop := ∀ ds, Qd ds → ∀ F' H' vs, Grow B.W F H F' H' → DeckIn B.W F' H' → Reps K F' vs ds → Q vs H'
inductive RepBs (W : WT) (K : Kn) (F H : Hp) : List V → List D → Prop
  | nil : RepBs W K F H [] []
  | cons {v : V} {vs : List V} {d : D} {ds : List D} : RepB W K F H v d → RepBs W K F H vs ds → RepBs W K F H (v :: vs) (d :: ds)
def FinAB (B : Bs) (K : Kn) (F H : Hp) (Qd : List D → Prop) (Q : List V → Hp → Prop) : Prop := ∀ ds, Qd ds → ∀ F' H' vs, Grow B.W F H F' H' → DeckIn B.W F' H' → RepBs B.W K F' H' vs ds → Q vs H'
/-- a new list, not frozen yet -/
def FinF (B : Bs) (K : Kn) (F H : Hp) (Qd : List D → Prop) (Q : VK) : Prop := ∀ ds, Qd ds → ∀ F' H' p vs, Grow B.W F H F' H' → DeckIn B.W F' H' → H p = none → F' p = none → H' p = some (.lst vs) → Reps K F' vs ds → Q (.ref p) H'

def LE (B : Bs) (K : Kn) (f : GE) : TE := fun s H Q => ∃ σ F Qd, Rel B K σ s F H ∧ f σ Qd ∧ Fin B K F H Qd Q
def LB (B : Bs) (K : Kn) (f : GE) : TE := fun s H Q => ∃ σ F Qd, Rel B K σ s F H ∧ f σ Qd ∧ FinB B K F H Qd Q
def LF (B : Bs) (K : Kn) (f : GA) : TE := fun s H Q => ∃ σ F Qd, Rel B K σ s F H ∧ f σ Qd ∧ FinF B K F H Qd Q
def LT (B : Bs) (K : Kn) (f : GT) : TT := fun s H Q => ∃ σ F Qd, Rel B K σ s F H ∧ f σ Qd ∧ FinT B F H Qd Q
def LA (B : Bs) (K : Kn) (f : GA) : TA := fun s H Q => ∃ σ F Qd, Rel B K σ s F H ∧ f σ Qd ∧ FinA B K F H Qd Q
def LAB (B : Bs) (K : Kn) (f : GA) : TA := fun s H Q => ∃ σ F Qd, Rel B K σ s F H ∧ f σ Qd ∧ FinAB B K F H Qd Q
/-- an expression gives data | may be borrowed | gives a new list | a test | arguments -/
structure ED (B : Bs) (X : Cx) (e : Expr) (f : GE) : Prop where
  run : PE X e (LE B X.kn f)
structure BD (B : Bs) (X : Cx) (e : Expr) (f : GE) : Prop where
  run : PE X e (LB B X.kn f)
structure FD (B : Bs) (X : Cx) (e : Expr) (f : GA) : Prop where
  run : PE X e (LF B X.kn f)
structure TD (B : Bs) (X : Cx) (e : Expr) (f : GT) : Prop where
  run : PT X e (LT B X.kn f)
structure WDd (B : Bs) (X : Cx) (e : Expr) (f : GT) : Prop where
  run : PW X e (LT B X.kn f)
structure AD (B : Bs) (X : Cx) (es : List Expr) (f : GA) : Prop where
  run : PA X es (LA B X.kn f)
structure ABD (B : Bs) (X : Cx) (es : List Expr) (f : GA) : Prop where
  run : PA X es (LAB B X.kn f)

theorem pe_imp {X : Cx} {e : Expr} {t t' : TE} (h : PE X e t) (w : ∀ s H Q, t' s H Q → t s H Q) : PE X e t' := ⟨fun pins s σ H Q I q => h.run pins s σ H Q I (w _ _ _ q)⟩
theorem pt_imp {X : Cx} {e : Expr} {t t' : TT} (h : PT X e t) (w : ∀ s H Q, t' s H Q → t s H Q) : PT X e t' := ⟨fun pins s σ H Q I q => h.run pins s σ H Q I (w _ _ _ q)⟩
theorem pw_imp {X : Cx} {e : Expr} {t t' : TT} (h : PW X e t) (w : ∀ s H Q, t' s H Q → t s H Q) : PW X e t' := ⟨fun wh pins s σ H Q I q => h.run wh pins s σ H Q I (w _ _ _ q)⟩
theorem pa_imp {X : Cx} {e : List Expr} {t t' : TA} (h : PA X e t) (w : ∀ s H Q, t' s H Q → t s H Q) : PA X e t' := ⟨fun pos pins s σ H Q I q => h.run pos pins s σ H Q I (w _ _ _ q)⟩

section
variable {B : Bs} {X : Cx} {e a b c : Expr} {es : List Expr} {f fa fb fc : GE} {pos : Pos}
theorem Fin.more {K : Kn} {F H F' H' : Hp} {Qd : D → Prop} {Q : VK} (h : Fin B K F H Qd Q) (g : Grow B.W F H F' H') : Fin B K F' H' Qd Q := fun d q F2 H2 v g2 dk r => h d q F2 H2 v (g.trans g2) dk r
theorem FinB.more {K : Kn} {F H F' H' : Hp} {Qd : D → Prop} {Q : VK} (h : FinB B K F H Qd Q) (g : Grow B.W F H F' H') : FinB B K F' H' Qd Q := fun d q F2 H2 v g2 dk r => h d q F2 H2 v (g.trans g2) dk r
theorem FinT.more {F H F' H' : Hp} {Qd : Bool → Prop} {Q : Bool → Hp → Prop} (h : FinT B F H Qd Q) (g : Grow B.W F H F' H') : FinT B F' H' Qd Q := fun d q F2 H2 g2 dk => h d q F2 H2 (g.trans g2) dk
theorem FinA.more {K : Kn} {F H F' H' : Hp} {Qd : List D → Prop} {Q : List V → Hp → Prop} (h : FinA B K F H Qd Q) (g : Grow B.W F H F' H') : FinA B K F' H' Qd Q := fun d q F2 H2 v g2 dk r => h d q F2 H2 v (g.trans g2) dk r
theorem FinAB.more {K : Kn} {F H F' H' : Hp} {Qd : List D → Prop} {Q : List V → Hp → Prop} (h : FinAB B K F H Qd Q) (g : Grow B.W F H F' H') : FinAB B K F' H' Qd Q := fun d q F2 H2 v g2 dk r => h d q F2 H2 v (g.trans g2) dk r
theorem FinF.more {K : Kn} {F H F' H' : Hp} {Qd : List D → Prop} {Q : VK} (h : FinF B K F H Qd Q) (g : Grow B.W F H F' H') : FinF B K F' H' Qd Q := fun d q F2 H2 p vs g2 dk hp fp e r => h d q F2 H2 p vs (g.trans g2) dk (g.back hp) fp e r
/-- a list just laid -/
theorem FinF.laid {K : Kn} {F H : Hp} {Qd : List D → Prop} {Q : VK} (h : FinF B K F H Qd Q) (e : Same F H) (dk : DeckIn B.W F H) {ds : List D} {p : Addr} {vs : List V} (q : Qd ds) (hp : H p = none) (r : Reps K F vs ds) : Q (.ref p) (upd H p (.lst vs)) :=
  h ds q F _ p vs (Grow.laid e hp) (dk.laid hp) hp (e.free hp) upd_same r

theorem ED.toB (h : ED B X e f) : BD B X e f := ⟨pe_imp h.run fun s H Q ⟨σ, F, Qd, R, q, k⟩ => ⟨σ, F, Qd, R, q, fun d qd F' H' v g dk r => k d qd F' H' v g dk (.inl r)⟩⟩
/-- a new list becomes data -/
@[simp] def gFrz (f : GA) (σ : List SV) (Q : D → Prop) : Prop := f σ fun ds => Q (.lst ds)
theorem fin_frz {K : Kn} {F H : Hp} {Qd : D → Prop} {Q : VK} (d0 : DeckIn B.W F H) (k : Fin B K F H Qd Q) : FinF B K F H (fun ds => Qd (.lst ds)) Q := fun ds qd F' H' p vs g dk hp fp e r =>
  k _ qd _ _ _ (g.freeze hp fp e) (d0.freeze dk hp) (.lst upd_same (r.mono (same_new fp)))
theorem FD.toE {f : GA} (h : FD B X e f) : ED B X e (gFrz f) := ⟨pe_imp h.run fun s H Q ⟨σ, F, Qd, R, q, k⟩ => ⟨σ, F, fun ds => Qd (.lst ds), R, q, fin_frz R.deck k⟩⟩
theorem FD.toB {f : GA} (h : FD B X e f) : BD B X e (gFrz f) := h.toE.toB

/-! ### names, constants -/
@[simp] def gVar (i : Nat) (σ : List SV) (Q : D → Prop) : Prop := match σ[i]? with | some (.d x) => Q x | _ => False
@[simp] def gVarB (i : Nat) (σ : List SV) (Q : D → Prop) : Prop := match σ[i]? with | some (.d x) => Q x | some (.ol xs) => Q (.lst xs) | some (.od ks) => Q (.dic ks) | _ => False
@[simp] def gC (d : D) (_ : List SV) (Q : D → Prop) : Prop := Q d
theorem ed_var (i : Nat) {x : Str} (h : PE X (.Name x pos) (tVar i)) : ED B X (.Name x pos) (gVar i) := ⟨pe_imp h fun s H Q ⟨σ, F, Qd, R, q, k⟩ => by
  unfold gVar at q
  split at q
  · rename_i x e
    obtain ⟨v, h1, h2⟩ := R.dat e
    exact ⟨v, h1, k _ q F H v (Grow.refl R.ex) R.deck h2⟩
  · exact q.elim⟩
theorem bd_var (i : Nat) {x : Str} (h : PE X (.Name x pos) (tVar i)) : BD B X (.Name x pos) (gVarB i) := ⟨pe_imp h fun s H Q ⟨σ, F, Qd, R, q, k⟩ => by
  unfold gVarB at q
  split at q
  · rename_i x e
    obtain ⟨v, h1, h2⟩ := R.dat e
    exact ⟨v, h1, k _ q F H v (Grow.refl R.ex) R.deck (.inl h2)⟩
  · rename_i xs e
    obtain ⟨a, vs, h1, h2, h3, h4, _⟩ := R.ownL e
    exact ⟨.ref a, h1, k _ q F H _ (Grow.refl R.ex) R.deck (.inr (.inl ⟨a, xs, vs, rfl, rfl, h4, h2, h3⟩))⟩
  · rename_i xs e
    obtain ⟨a, vs, h1, h2, h3, h4, _⟩ := R.ownD e
    exact ⟨.ref a, h1, k _ q F H _ (Grow.refl R.ex) R.deck (.inr (.inr ⟨a, xs, vs, rfl, rfl, h4, h2, h3⟩))⟩
  · exact q.elim⟩
/-- a value that is known -/
theorem ed_c {v : V} {d : D} (h : PE X e (tC v)) (r : ∀ F, Rep X.kn F v d) : ED B X e (gC d) := ⟨pe_imp h fun s H Q ⟨σ, F, Qd, R, q, k⟩ => k d q F H v (Grow.refl R.ex) R.deck (r F)⟩
theorem ed_int {i : Int} {j : Nat} : ED B X (.Constant (.int i) j pos) (gC (.int i)) := ed_c pe_int fun _ => .int i
theorem ed_bl {i : Bool} {j : Nat} : ED B X (.Constant (.bool i) j pos) (gC (.bl i)) := ed_c pe_bl fun _ => .bl i
theorem ed_non {j : Nat} : ED B X (.Constant .none j pos) (gC .non) := ed_c pe_non fun _ => .non
theorem ed_str {x : Str} {j : Nat} : ED B X (.Constant (.str x) j pos) (gC (.str x)) := ed_c pe_str fun _ => .str x

/-! ### two in a row -/
theorem lb_two {K : Kn} {s : L2.St} {σ : List SV} {F H : Hp} {R2 : V → V → Hp → Prop} {Qd : D → D → Prop} (R : Rel B K σ s F H) (q : fa σ fun x => fb σ fun y => Qd x y)
    (k : ∀ x y F' H' v u, Qd x y → Grow B.W F H F' H' → DeckIn B.W F' H' → RepB B.W K F' H' v x → RepB B.W K F' H' u y → R2 v u H') : LB B K fa s H fun v H1 => LB B K fb s H1 fun u H2 => R2 v u H2 :=
  ⟨σ, F, _, R, q, fun x qx F1 H1 v g1 d1 r1 => ⟨σ, F1, _, R.grow g1 d1, qx, fun y qy F2 H2 u g2 d2 r2 => k x y F2 H2 v u qy (g1.trans g2) d2 (r1.grow g2) r2⟩⟩
/-- an operation on values, by data -/
def LO2 (B : Bs) (K : Kn) (g : D → D → (D → Prop) → Prop) : R2 := fun v u H Q => ∃ F x y Qd, Same F H ∧ DeckIn B.W F H ∧ RepB B.W K F H v x ∧ RepB B.W K F H u y ∧ g x y Qd ∧ Fin B K F H Qd Q
def LO1 (B : Bs) (K : Kn) (g : D → (D → Prop) → Prop) : V → Hp → VK → Prop := fun v H Q => ∃ F x Qd, Same F H ∧ DeckIn B.W F H ∧ RepB B.W K F H v x ∧ g x Qd ∧ Fin B K F H Qd Q
@[simp] def gBin (g : D → D → (D → Prop) → Prop) (fa fb : GE) (σ : List SV) (Q : D → Prop) : Prop := fa σ fun x => fb σ fun y => g x y Q
@[simp] def gUn (g : D → (D → Prop) → Prop) (fa : GE) (σ : List SV) (Q : D → Prop) : Prop := fa σ fun x => g x Q
variable {g : D → D → (D → Prop) → Prop}
theorem lo2_of {K : Kn} {s : L2.St} {σ : List SV} {F H : Hp} {Qd : D → Prop} {Q : VK} (R : Rel B K σ s F H) (q : gBin g fa fb σ Qd) (k : Fin B K F H Qd Q) : tOp (LO2 B K g) (LB B K fa) (LB B K fb) s H Q :=
  lb_two (Qd := fun x y => g x y Qd) R q fun x y F' H' v u q g' d r1 r2 => ⟨F', x, y, Qd, g'.fh, d, r1, r2, q, k.more g'⟩
theorem ed_bin {op : Operator} (ho : OpR X (binaryOp op) (LO2 B X.kn g)) (ha : BD B X a fa) (hb : BD B X b fb) : ED B X (.BinOp a op b pos) (gBin g fa fb) :=
  ⟨pe_imp (pe_op ho ha.run hb.run) fun s H Q ⟨σ, F, Qd, R, q, k⟩ => lo2_of R q k⟩
theorem ed_un {op : UnaryOp} {g : D → (D → Prop) → Prop} (ho : UnR X (unaryOp op) (LO1 B X.kn g)) (ha : BD B X a fa) : ED B X (.UnaryOp op a pos) (gUn g fa) :=
  ⟨pe_imp (pe_un ho ha.run) fun s H Q ⟨σ, F, Qd, R, q, k⟩ => ⟨σ, F, _, R, q, fun x qx F1 H1 v g1 d1 r1 => ⟨F1, x, Qd, g1.fh, d1, r1, qx, k.more g1⟩⟩⟩
theorem opR_by {f : Value → Value → Sem Value} {r' : R2} (w : ∀ v u H Q, r' v u H Q → ∃ r, OpR X f r ∧ r v u H Q) : OpR X f r' := fun pins s σ H x y v u Q I rx ry q => by
  obtain ⟨r, h, q'⟩ := w _ _ _ _ q
  exact h pins s σ H x y v u Q I rx ry q'
theorem unR_by {f : Value → Sem Value} {r' : V → Hp → VK → Prop} (w : ∀ v H Q, r' v H Q → ∃ r, UnR X f r ∧ r v H Q) : UnR X f r' := fun pins s σ H x v Q I rx q => by
  obtain ⟨r, h, q'⟩ := w _ _ _ q
  exact h pins s σ H x v Q I rx q'
theorem Fin.here {K : Kn} {F H : Hp} {Qd : D → Prop} {Q : VK} (k : Fin B K F H Qd Q) (e : Same F H) (dk : DeckIn B.W F H) {d : D} {v : V} (q : Qd d) (r : Rep K F v d) : Q v H := k d q F H v (Grow.refl e) dk r
theorem Fin.frz {K : Kn} {F H : Hp} {Qd : D → Prop} {Q : VK} (k : Fin B K F H Qd Q) (e : Same F H) (dk : DeckIn B.W F H) {d : D} {p : Addr} {o : HO} (q : Qd d) (hp : H p = none) (r : Rep K (upd F p o) (.ref p) d) (nt : NT o := by intro _ z; cases z) : Q (.ref p) (upd H p o) :=
  k d q _ _ _ (Grow.frz e hp) (dk.frz hp nt) r

/-! ### arithmetic -/
/-- integers that may be multiplied -/
def MulOk (i j : Int) : Prop := i.natAbs.log2 + j.natAbs.log2 < 1000000
def addD : D → D → (D → Prop) → Prop
  | .int i, .int j, Q => Q (.int (i + j))
  | .str i, .str j, Q => i.length + j.length ≤ sizeLine ∧ Q (.str (i ++ j))
  | .tup xs, .tup ys, Q => xs.length + ys.length ≤ sizeLine ∧ Q (.tup (xs ++ ys))
  | .lst xs, .lst ys, Q => xs.length + ys.length ≤ sizeLine ∧ Q (.lst (xs ++ ys))
  | _, _, _ => False
def subD : D → D → (D → Prop) → Prop
  | .int i, .int j, Q => Q (.int (i - j))
  | _, _, _ => False
def mulD : D → D → (D → Prop) → Prop
  | .int i, .int j, Q => MulOk i j ∧ Q (.int (i * j))
  | .lst xs, .int k, Q => 0 ≤ k ∧ k < 2 ^ 63 ∧ xs.length * k.toNat ≤ sizeLine ∧ Q (.lst (List.replicate k.toNat xs).flatten)
  | _, _, _ => False
def modD : D → D → (D → Prop) → Prop
  | .int i, .int j, Q => 0 < j ∧ Q (.int (i % j))
  | _, _, _ => False
def powD : D → D → (D → Prop) → Prop
  | .int i, .int j, Q => 0 ≤ j ∧ j ≤ 1000000 ∧ i.natAbs < 2 ^ 64 ∧ Q (.int (i ^ j.toNat))
  | _, _, _ => False
def negD : D → (D → Prop) → Prop
  | .int i, Q => Q (.int (-i))
  | _, _ => False
theorem o_add : OpR X (binaryOp .Add) (LO2 B X.kn addD) := opR_by fun v u H Q ⟨F, x, y, Qd, e, dk, r1, r2, q, k⟩ => by
  unfold addD at q
  split at q
  · exact ⟨_, op_add, _, _, r1.int, r2.int, k.here e dk q (.int _)⟩
  · exact ⟨_, op_add_str, _, _, r1.str, r2.str, q.1, k.here e dk q.2 (.str _)⟩
  · obtain ⟨a, vs, rfl, f1, h1, s1⟩ := r1.tup e
    obtain ⟨b, us, rfl, f2, h2, s2⟩ := r2.tup e
    refine ⟨_, op_catA, a, b, vs, us, rfl, rfl, h1, h2, by rw [s1.length, s2.length]; exact q.1, ?_⟩
    have z := s1.append s2
    refine ⟨fun w => ?_, fun w1 w => ?_, fun w1 w2 p hp => ?_⟩
    · subst w
      cases s1
      exact k.here e dk q.2 (.tup f2 (by simpa using s2))
    · subst w
      cases s2
      exact k.here e dk q.2 (.tup f1 (by simpa using s1))
    · exact k.frz e dk q.2 hp (.tup (SqT.of upd_same) (z.mono (same_new (e.free hp))))
  · obtain ⟨a, vs, rfl, h1, s1⟩ := r1.lst e
    obtain ⟨b, us, rfl, h2, s2⟩ := r2.lst e
    exact ⟨_, op_cat, a, b, vs, us, rfl, rfl, h1, h2, by rw [s1.length, s2.length]; exact q.1, fun p hp => k.frz e dk q.2 hp (.lst upd_same ((s1.append s2).mono (same_new (e.free hp))))⟩
  · exact q.elim
end
end ND

/-! ND3: operators, comparisons, truth, displays, items, slices -/
namespace ND
open PySem PySem.Spec L2
section
variable {B : Bs} {X : Cx} {e a b c : Expr} {es : List Expr} {f fa fb fc : GE} {pos : Pos}
theorem o_sub : OpR X (binaryOp .Sub) (LO2 B X.kn subD) := opR_by fun v u H Q ⟨F, x, y, Qd, e, dk, r1, r2, q, k⟩ => by
  unfold subD at q
  split at q
  · exact ⟨_, op_sub, _, _, r1.int, r2.int, k.here e dk q (.int _)⟩
  · exact q.elim
theorem Reps.rep {K : Kn} {F : Hp} {vs : List V} {ds : List D} (h : Reps K F vs ds) : ∀ n : Nat, Reps K F (List.replicate n vs).flatten (List.replicate n ds).flatten
  | 0 => .nil
  | n + 1 => by
    rw [List.replicate_succ, List.replicate_succ, List.flatten_cons, List.flatten_cons]
    exact h.append (Reps.rep h n)
theorem o_mul : OpR X (binaryOp .Mult) (LO2 B X.kn mulD) := opR_by fun v u H Q ⟨F, x, y, Qd, e, dk, r1, r2, q, k⟩ => by
  unfold mulD at q
  split at q
  · exact ⟨_, op_mulW, _, _, r1.int, r2.int, q.1, k.here e dk q.2 (.int _)⟩
  · obtain ⟨a, vs, rfl, h1, s1⟩ := r1.lst e
    obtain ⟨q0, q1, q2, q3⟩ := q
    have := s1.length
    exact ⟨_, op_rep, a, _, vs, rfl, r2.int, h1, by omega, q1, by rw [this]; exact q2, fun p hp => k.frz e dk q3 hp (.lst upd_same ((s1.rep _).mono (same_new (e.free hp))))⟩
  · exact q.elim
theorem o_mod : OpR X (binaryOp .Mod) (LO2 B X.kn modD) := opR_by fun v u H Q ⟨F, x, y, Qd, e, dk, r1, r2, q, k⟩ => by
  unfold modD at q
  split at q
  · exact ⟨_, op_mod, _, _, r1.int, r2.int, q.1, k.here e dk q.2 (.int _)⟩
  · exact q.elim
theorem o_pow : OpR X (binaryOp .Pow) (LO2 B X.kn powD) := opR_by fun v u H Q ⟨F, x, y, Qd, e, dk, r1, r2, q, k⟩ => by
  unfold powD at q
  split at q
  · exact ⟨_, op_pow, _, _, r1.int, r2.int, ⟨q.1, q.2.1, q.2.2.1⟩, k.here e dk q.2.2.2 (.int _)⟩
  · exact q.elim
theorem o_neg : UnR X (unaryOp .USub) (LO1 B X.kn negD) := unR_by fun v H Q ⟨F, x, Qd, e, dk, r1, q, k⟩ => by
  unfold negD at q
  split at q
  · exact ⟨_, un_neg, _, r1.int, k.here e dk q (.int _)⟩
  · exact q.elim

/-! ### plain data and their equality -/
mutual
def toPy : D → PyData
  | .non => .none
  | .bl b => .bool b
  | .int i => .int i
  | .str x => .str x
  | .tup xs => .tuple (toPys xs)
  | .lst xs => .list (toPys xs)
  | .dic kvs => .dict (toPyK kvs)
  | .obj _ _ => .none
  | .opq _ => .none
def toPys : List D → List PyData
  | [] => []
  | x :: xs => toPy x :: toPys xs
def toPyK : List (Key × D) → List (PyData × PyData)
  | [] => []
  | (.inl i, x) :: xs => (.int i, toPy x) :: toPyK xs
  | (.inr i, x) :: xs => (.str i, toPy x) :: toPyK xs
end
/-! plain data: no dict, no object within, at most n deep -/
mutual
def pl : Nat → D → Bool
  | _, .non => true
  | _, .bl _ => true
  | _, .int _ => true
  | _, .str x => PyData.strOk x
  | 0, .tup _ => false
  | 0, .lst _ => false
  | n + 1, .tup xs => pls n xs
  | n + 1, .lst xs => pls n xs
  | _, .dic _ => false
  | _, .obj _ _ => false
  | _, .opq _ => false
def pls : Nat → List D → Bool
  | _, [] => true
  | n, x :: xs => pl n x && pls n xs
end
mutual
theorem pl_shape : ∀ (n : Nat) (d : D), pl n d = true → (toPy d).canLay0 = true ∧ (toPy d).depth ≤ n
  | n, .non, _ => by simp [toPy, PyData.canLay0, PyData.depth]
  | n, .bl b, _ => by simp [toPy, PyData.canLay0, PyData.depth]
  | n, .int b, _ => by simp [toPy, PyData.canLay0, PyData.depth]
  | n, .str x, h => by
    simp only [pl] at h
    simp [toPy, PyData.canLay0, PyData.depth, h]
  | 0, .tup xs, h => by simp [pl] at h
  | 0, .lst xs, h => by simp [pl] at h
  | n + 1, .tup xs, h => by
    simp only [pl] at h
    obtain ⟨h1, h2⟩ := pls_shape n xs h
    simp only [toPy, PyData.canLay0, PyData.depth]
    exact ⟨h1, by omega⟩
  | n + 1, .lst xs, h => by
    simp only [pl] at h
    obtain ⟨h1, h2⟩ := pls_shape n xs h
    simp only [toPy, PyData.canLay0, PyData.depth]
    exact ⟨h1, by omega⟩
  | n, .dic _, h => by simp [pl] at h
  | n, .obj _ _, h => by simp [pl] at h
  | n, .opq _, h => by simp [pl] at h
theorem pls_shape : ∀ (n : Nat) (d : List D), pls n d = true → PyData.canLayAll0 (toPys d) = true ∧ PyData.depthAll (toPys d) ≤ n
  | n, [], _ => by simp [toPys, PyData.canLayAll0, PyData.depthAll]
  | n, x :: xs, h => by
    simp only [pls, Bool.and_eq_true] at h
    obtain ⟨h1, h2⟩ := pl_shape n x h.1
    obtain ⟨h3, h4⟩ := pls_shape n xs h.2
    simp only [toPys, PyData.canLayAll0, PyData.depthAll, Bool.and_eq_true]
    exact ⟨⟨h1, h3⟩, by omega⟩
end
theorem pl_shaped {d : D} (h : pl 64 d = true) : SeqAt.shaped (toPy d) = true := by
  obtain ⟨h1, h2⟩ := pl_shape 64 d h
  show ((toPy d).canLay0 && decide ((toPy d).depth ≤ 64)) = true
  rw [h1, decide_eq_true h2]
  rfl
mutual
theorem Rep.dp {K : Kn} {F H : Hp} (e : Same F H) : ∀ (n : Nat) (d : D) (v : V), pl n d = true → Rep K F v d → Dp K.K H v (toPy d)
  | _, .non, _, _, h => by cases h; simp only [toPy]; exact .non
  | _, .bl _, _, _, h => by cases h; simp only [toPy]; exact .bl _
  | _, .int _, _, _, h => by cases h; simp only [toPy]; exact .int _
  | _, .str _, _, _, h => by cases h; simp only [toPy]; exact .str _
  | 0, .tup _, _, p, h => by simp [pl] at p
  | 0, .lst _, _, p, h => by simp [pl] at p
  | n + 1, .tup xs, _, p, h => by
    simp only [pl] at p
    cases h with
    | tup h r =>
      simp only [toPy]
      exact .tup (same_t e h) (Reps.dp e n xs _ p r)
  | n + 1, .lst xs, _, p, h => by
    simp only [pl] at p
    cases h with
    | lst h r =>
      simp only [toPy]
      exact .lst (SqL.of (e _ _ h)) (Reps.dp e n xs _ p r)
  | _, .dic _, _, p, _ => by simp [pl] at p
  | _, .obj _ _, _, p, _ => by simp [pl] at p
  | _, .opq _, _, p, _ => by simp [pl] at p
theorem Reps.dp {K : Kn} {F H : Hp} (e : Same F H) : ∀ (n : Nat) (d : List D) (v : List V), pls n d = true → Reps K F v d → DpAll K.K H v (toPys d)
  | _, [], _, _, h => by cases h; simp only [toPys]; exact .nil
  | n, x :: xs, _, p, h => by
    simp only [pls, Bool.and_eq_true] at p
    cases h with
    | cons h1 h2 =>
      simp only [toPys]
      exact .cons (Rep.dp e n x _ p.1 h1) (Reps.dp e n xs _ p.2 h2)
end
theorem RepB.dp {W : WT} {K : Kn} {F H : Hp} {v : V} {d : D} (h : RepB W K F H v d) (e : Same F H) (p : pl 64 d = true) : Dp K.K H v (toPy d) := by
  rcases h with h | ⟨a, ds, vs, rfl, rfl, _, h, r⟩ | ⟨a, ds, vs, rfl, rfl, _, h, r⟩
  · exact h.dp e 64 d v p
  · simp only [pl] at p
    simp only [toPy]
    exact .lst (SqL.of h) (Reps.dp e 63 ds _ p r)
  · simp [pl] at p
/-- Python's == on plain data -/
def eqb (x y : D) : Bool := PyData.eqv (toPy x) (toPy y)
def eqD : D → D → (D → Prop) → Prop
  | .str a, .str b, Q => Q (.bl (decide (a = b)))
  | x, y, Q => pl 64 x = true ∧ pl 64 y = true ∧ Q (.bl (eqb x y))
def neD : D → D → (D → Prop) → Prop
  | .str a, .str b, Q => Q (.bl (!decide (a = b)))
  | x, y, Q => pl 64 x = true ∧ pl 64 y = true ∧ Q (.bl (!eqb x y))
theorem vstr {a b : Str} : decide (V.str a = V.str b) = decide (a = b) := by
  by_cases h : a = b
  · subst h; simp
  · rw [decide_eq_false h, decide_eq_false fun z => h (V.str.inj z)]
theorem o_eq (hu : X.A.units + 64 < cLine) : OpR X (compareOp .Eq) (LO2 B X.kn eqD) := opR_by fun v u H Q ⟨F, x, y, Qd, e, dk, r1, r2, q, k⟩ => by
  unfold eqD at q
  split at q
  · refine ⟨_, op_eq, ?_, ?_⟩
    · rw [r1.str, r2.str]; rfl
    · rw [r1.str, r2.str, vstr]; exact k.here e dk q (.bl _)
  · exact ⟨_, op_eqD hu, _, _, r1.dp e q.1, r2.dp e q.2.1, pl_shaped q.1, pl_shaped q.2.1, k.here e dk q.2.2 (.bl _)⟩
theorem o_ne (hu : X.A.units + 64 < cLine) : OpR X (compareOp .NotEq) (LO2 B X.kn neD) := opR_by fun v u H Q ⟨F, x, y, Qd, e, dk, r1, r2, q, k⟩ => by
  unfold neD at q
  split at q
  · refine ⟨_, op_ne, ?_, ?_⟩
    · rw [r1.str, r2.str]; rfl
    · rw [r1.str, r2.str, vstr]; exact k.here e dk q (.bl _)
  · exact ⟨_, op_neD hu, _, _, r1.dp e q.1, r2.dp e q.2.1, pl_shaped q.1, pl_shaped q.2.1, k.here e dk q.2.2 (.bl _)⟩
/-- in: plain data in a tuple or a list of such; a sign in a text -/
def inb (x : D) (ys : List D) : Bool := ys.any fun z => eqb z x
def inD (neg : Bool) : D → D → (D → Prop) → Prop
  | x, .tup ys, Q => pl 64 x = true ∧ pl 64 (.tup ys) = true ∧ Q (.bl (if neg then !inb x ys else inb x ys))
  | x, .lst ys, Q => pl 64 x = true ∧ pl 64 (.lst ys) = true ∧ Q (.bl (if neg then !inb x ys else inb x ys))
  | .str x, .str y, Q => ∃ c, x = ⟨#[c]⟩ ∧ Q (.bl (if neg then !decide (c ∈ y.cps.toList) else decide (c ∈ y.cps.toList)))
  | _, _, _ => False
theorem any_toPy (x : D) : ∀ ys : List D, ((toPys ys).any fun z => PyData.eqv z (toPy x)) = inb x ys
  | [] => by simp [toPys, inb]
  | y :: ys => by
    have := any_toPy x ys
    simp only [toPys, List.any_cons, this, inb, eqb]
def rInT (K : PySem.W.Frag) (neg : Bool) : R2 := fun x y H Q => ∃ d ds, Dp K H x d ∧ Dp K H y (.tuple ds) ∧ SeqAt.shaped d = true ∧ SeqAt.shaped (.tuple ds) = true ∧ Q (.bl (if neg then !(ds.any fun z => PyData.eqv z d) else ds.any fun z => PyData.eqv z d)) H
theorem op_inTup (hu : X.A.units + 65 < cLine) : OpR X (compareOp .In) (rInT X.K false) := fun _ _ _ H one all v u _ I isOne isAll ⟨d, ds, dOne, dAll, okOne, okAll, q⟩ => by
  obtain ⟨⟨_, readsOne⟩, _, readsAll⟩ := And.intro (Dp.reads I d one v dOne isOne) (Dp.reads I (.tuple ds) all u dAll isAll)
  exact SeqAt.in_tuple_reads readsAll readsOne (SeqAt.canLay_of_shaped okAll) (SeqAt.canLay_of_shaped okOne) (PyProof.Rows.room_in_shaped okOne hu) ⟨.bl _, H, I, rfl, q⟩
theorem o_in (hu : X.A.units + 65 < cLine) : OpR X (compareOp .In) (LO2 B X.kn (inD false)) := opR_by fun v u H Q ⟨F, x, y, Qd, e, dk, r1, r2, q, k⟩ => by
  unfold inD at q
  split at q
  · have d2 := r2.dp e q.2.1
    have s2 := pl_shaped q.2.1
    simp only [toPy] at d2 s2
    exact ⟨_, op_inTup hu, _, _, r1.dp e q.1, d2, pl_shaped q.1, s2, by rw [any_toPy]; exact k.here e dk q.2.2 (.bl _)⟩
  · have d2 := r2.dp e q.2.1
    have s2 := pl_shaped q.2.1
    simp only [toPy] at d2 s2
    exact ⟨_, op_inD hu, _, _, r1.dp e q.1, d2, pl_shaped q.1, s2, by rw [any_toPy]; exact k.here e dk q.2.2 (.bl _)⟩
  · obtain ⟨c, rfl, q⟩ := q
    exact ⟨_, op_in_sign, c, _, r1.str, r2.str, k.here e dk q (.bl _)⟩
  · exact q.elim
/-- is: with None, two bools -/
def isD (neg : Bool) : D → D → (D → Prop) → Prop
  | .opq _, _, _ => False
  | .non, .non, Q => Q (.bl (!neg))
  | .bl a, .bl b, Q => Q (.bl (if neg then !decide (a = b) else decide (a = b)))
  | _, .non, Q => Q (.bl neg)
  | _, _, _ => False
theorem rep_ne_non {K : Kn} {W : WT} {F H : Hp} {v : V} {d : D} (h : RepB W K F H v d) (n : d ≠ .non) (n2 : ∀ u, d ≠ .opq u) : decide (v = V.non) = false := by
  refine decide_eq_false fun z => ?_
  subst z
  rcases h with h | ⟨a, ds, vs, e, _⟩ | ⟨a, ds, vs, e, _⟩
  · cases h with
    | non => exact n rfl
    | opq => exact n2 _ rfl
  · cases e
  · cases e
theorem o_is : OpR X (compareOp .Is) (LO2 B X.kn (isD false)) := opR_by fun v u H Q ⟨F, x, y, Qd, e, dk, r1, r2, q, k⟩ => by
  unfold isD at q
  split at q
  · exact q.elim
  · exact ⟨_, op_isN, r2.non, by rw [r1.non]; exact k.here e dk q (.bl _)⟩
  · exact ⟨_, op_isBl, _, _, r1.bl, r2.bl, k.here e dk q (.bl _)⟩
  · exact ⟨_, op_isN, r2.non, by rw [rep_ne_non r1 (by assumption) (by assumption)]; exact k.here e dk q (.bl _)⟩
  · exact q.elim
theorem o_isNot : OpR X (compareOp .IsNot) (LO2 B X.kn (isD true)) := opR_by fun v u H Q ⟨F, x, y, Qd, e, dk, r1, r2, q, k⟩ => by
  unfold isD at q
  split at q
  · exact q.elim
  · exact ⟨_, op_notN, r2.non, by rw [r1.non]; exact k.here e dk q (.bl _)⟩
  · exact ⟨_, op_notBl, _, _, r1.bl, r2.bl, k.here e dk q (.bl _)⟩
  · exact ⟨_, op_notN, r2.non, by rw [rep_ne_non r1 (by assumption) (by assumption)]; exact k.here e dk q (.bl _)⟩
  · exact q.elim
def ltD : D → D → (D → Prop) → Prop
  | .int i, .int j, Q => Q (.bl (decide (i < j)))
  | .str i, .str j, Q => Q (.bl (decide (i.cps.toList < j.cps.toList)))
  | _, _, _ => False
def leD : D → D → (D → Prop) → Prop
  | .int i, .int j, Q => Q (.bl (decide (i ≤ j)))
  | .str i, .str j, Q => Q (.bl (!decide (j.cps.toList < i.cps.toList)))
  | _, _, _ => False
def gtD : D → D → (D → Prop) → Prop
  | .int i, .int j, Q => Q (.bl (decide (j < i)))
  | .str i, .str j, Q => Q (.bl (decide (j.cps.toList < i.cps.toList)))
  | _, _, _ => False
def geD : D → D → (D → Prop) → Prop
  | .int i, .int j, Q => Q (.bl (decide (j ≤ i)))
  | .str i, .str j, Q => Q (.bl (!decide (i.cps.toList < j.cps.toList)))
  | _, _, _ => False
theorem o_lt : OpR X (compareOp .Lt) (LO2 B X.kn ltD) := opR_by fun v u H Q ⟨F, x, y, Qd, e, dk, r1, r2, q, k⟩ => by
  unfold ltD at q
  split at q
  · exact ⟨_, op_lt, _, _, r1.int, r2.int, k.here e dk q (.bl _)⟩
  · exact ⟨_, op_lt_str, _, _, r1.str, r2.str, k.here e dk q (.bl _)⟩
  · exact q.elim
theorem o_le : OpR X (compareOp .LtE) (LO2 B X.kn leD) := opR_by fun v u H Q ⟨F, x, y, Qd, e, dk, r1, r2, q, k⟩ => by
  unfold leD at q
  split at q
  · exact ⟨_, op_le, _, _, r1.int, r2.int, k.here e dk q (.bl _)⟩
  · exact ⟨_, op_le_str, _, _, r1.str, r2.str, k.here e dk q (.bl _)⟩
  · exact q.elim
theorem o_gt : OpR X (compareOp .Gt) (LO2 B X.kn gtD) := opR_by fun v u H Q ⟨F, x, y, Qd, e, dk, r1, r2, q, k⟩ => by
  unfold gtD at q
  split at q
  · exact ⟨_, op_gt, _, _, r1.int, r2.int, k.here e dk q (.bl _)⟩
  · exact ⟨_, op_gt_str, _, _, r1.str, r2.str, k.here e dk q (.bl _)⟩
  · exact q.elim
theorem o_ge : OpR X (compareOp .GtE) (LO2 B X.kn geD) := opR_by fun v u H Q ⟨F, x, y, Qd, e, dk, r1, r2, q, k⟩ => by
  unfold geD at q
  split at q
  · exact ⟨_, op_ge, _, _, r1.int, r2.int, k.here e dk q (.bl _)⟩
  · exact ⟨_, op_ge_str, _, _, r1.str, r2.str, k.here e dk q (.bl _)⟩
  · exact q.elim

/-! ### comparisons as values and tests; truth; and, or, not -/
variable {g g' : D → D → (D → Prop) → Prop} {ft fu : GT} {rest : List Expr}
theorem ed_cmp {op : CmpOp} (ho : OpR X (compareOp op) (LO2 B X.kn g)) (ha : BD B X a fa) (hb : BD B X b fb) (hm : behindInMarks op b = false) : ED B X (.Compare a [op] [b] pos) (gBin g fa fb) :=
  ⟨pe_imp (pe_cmpR ho ha.run hb.run hm) fun s H Q ⟨σ, F, Qd, R, q, k⟩ => lo2_of R q k⟩
/-- if, by a bool: does not open where the bool is not known -/
def iteB : Bool → Prop → Prop → Prop
  | true, p, _ => p
  | false, _, q => q
@[simp] theorem iteB_eq (b : Bool) (p q : Prop) : iteB b p q = (if b = true then p else q) := by cases b <;> simp [iteB]
/-- a value that has to be a bool, as a test -/
def isBl : D → (Bool → Prop) → Prop
  | .bl b, Q => Q b
  | _, _ => False
@[simp] theorem isBl_b (b : Bool) (Q : Bool → Prop) : isBl (.bl b) Q ↔ Q b := Iff.rfl
theorem isBl_ex {d : D} {Q : Bool → Prop} (h : isBl d Q) : ∃ b, d = .bl b ∧ Q b := by
  cases d with
  | bl b => exact ⟨b, rfl, h⟩
  | _ => exact False.elim h
@[simp] def gB (f : GE) (σ : List SV) (Q : Bool → Prop) : Prop := f σ fun d => isBl d Q
theorem fin_b {K : Kn} {F H : Hp} {Qd : Bool → Prop} {Q : Bool → Hp → Prop} (k : FinT B F H Qd Q) : Fin B K F H (fun d => isBl d Qd) fun x H' => ∃ b, x = .bl b ∧ Q b H' := fun d q0 F' H' v g dk r => by
  obtain ⟨b, e, q⟩ := isBl_ex q0
  subst e
  cases r
  exact ⟨b, rfl, k b q F' H' g dk⟩
theorem td_cmp {op : CmpOp} (ho : OpR X (compareOp op) (LO2 B X.kn g)) (ha : BD B X a fa) (hb : BD B X b fb) (hm : behindInMarks op b = false) : TD B X (.Compare a [op] [b] pos) (gB (gBin g fa fb)) :=
  ⟨pt_imp (pt_cmpR ho ha.run hb.run hm) fun s H Q ⟨σ, F, Qd, R, q, k⟩ => lo2_of R q (fin_b k)⟩
@[simp] def gChain (g g' : D → D → (D → Prop) → Prop) (fa fb fc : GE) (σ : List SV) (Q : D → Prop) : Prop := fa σ fun x => fb σ fun y => g x y fun r => isBl r fun b => iteB b (fc σ fun z => g' y z Q) (Q (.bl false))
theorem lo_chain {K : Kn} {s : L2.St} {σ : List SV} {F H : Hp} {Qd : D → Prop} {Q : VK} (R : Rel B K σ s F H) (q : gChain g g' fa fb fc σ Qd) (k : Fin B K F H Qd Q) : tChain (LO2 B K g) (LO2 B K g') (LB B K fa) (LB B K fb) (LB B K fc) s H Q := by
  refine lb_two (R2 := fun x y H2 => LO2 B K g x y H2 fun z H3 => ∃ k, z = .bl k ∧ (if k = true then LB B K fc s H3 fun w' H4 => LO2 B K g' y w' H4 Q else Q (.bl false) H3)) R q fun x y F1 H1 v u qq g1 dk r1 r2 => ?_
  refine ⟨F1, x, y, _, g1.fh, dk, r1, r2, qq, fun d qq3 F2 H2 w g2 dk2 r3 => ?_⟩
  obtain ⟨b, e, q3⟩ := isBl_ex qq3
  subst e
  cases r3
  refine ⟨b, rfl, ?_⟩
  cases b with
  | false => exact k _ q3 F2 H2 _ (g1.trans g2) dk2 (.bl false)
  | true => exact ⟨σ, F2, _, R.grow (g1.trans g2) dk2, q3, fun z qz F3 H3 w3 g3 dk3 r4 => ⟨F3, y, z, Qd, g3.fh, dk3, r2.grow (g2.trans g3), r4, qz, k.more ((g1.trans g2).trans g3)⟩⟩
theorem ed_chain {op op' : CmpOp} (ho : OpR X (compareOp op) (LO2 B X.kn g)) (ho' : OpR X (compareOp op') (LO2 B X.kn g')) (ha : BD B X a fa) (hb : BD B X b fb) (hc : BD B X c fc)
    (hm : lastMarks [op, op'] [b, c] = false := by with_unfolding_all rfl) : ED B X (.Compare a [op, op'] [b, c] pos) (gChain g g' fa fb fc) :=
  ⟨pe_imp (pe_chain ho ho' ha.run hb.run hc.run hm) fun s H Q ⟨σ, F, Qd, R, q, k⟩ => lo_chain R q k⟩
/-- the truth of data -/
def truthD : D → (Bool → Prop) → Prop
  | .non, Q => Q false
  | .bl b, Q => Q b
  | .int i, Q => Q (i != 0)
  | .str x, Q => x.length ≤ sizeLine ∧ Q ((x.length : Int) != 0)
  | .tup xs, Q => Q (!xs.isEmpty)
  | .lst xs, Q => Q (!xs.isEmpty)
  | .dic kvs, Q => Q (!kvs.isEmpty)
  | _, _ => False
theorem Reps.isEmpty {K : Kn} {F : Hp} {vs : List V} {ds : List D} (h : Reps K F vs ds) : vs.isEmpty = ds.isEmpty := by cases h <;> rfl
theorem RepKs.isEmpty {K : Kn} {F : Hp} {vs : List (Key × V)} {ds : List (Key × D)} (h : RepKs K F vs ds) : vs.isEmpty = ds.isEmpty := by cases h <;> rfl
theorem truth_of {K : Kn} {W : WT} {F H : Hp} {v : V} {d : D} {Qd : Bool → Prop} (r : RepB W K F H v d) (e : Same F H) (q : truthD d Qd) : ∃ b, TruV K.K v H b ∧ Qd b := by
  unfold truthD at q
  split at q
  · rw [r.non]; exact ⟨_, rfl, q⟩
  · rw [r.bl]; exact ⟨_, rfl, q⟩
  · rw [r.int]; exact ⟨_, rfl, q⟩
  · rw [r.str]; exact ⟨_, ⟨q.1, rfl⟩, q.2⟩
  · obtain ⟨a, vs, rfl, _, h, s⟩ := r.tup e
    exact ⟨_, .inr (.inl ⟨vs, h, by rw [s.isEmpty]⟩), q⟩
  · obtain ⟨a, vs, rfl, h, s⟩ := r.lst e
    exact ⟨_, .inl ⟨vs, SqL.of h, by rw [s.isEmpty]⟩, q⟩
  · obtain ⟨a, vs, rfl, h, s⟩ := r.dic e
    exact ⟨_, .inr (.inr ⟨vs, h, by rw [s.isEmpty]⟩), q⟩
  · exact q.elim
@[simp] def gTru (f : GE) (σ : List SV) (Q : Bool → Prop) : Prop := f σ fun d => truthD d Q
theorem td_val (ha : BD B X a fa) (he : ∀ whole, isTrue a X.env whole = (do let v ← whole; standAt a.pos; holding [v] (truthy v)) := by intro _; rfl) : TD B X a (gTru fa) :=
  ⟨pt_imp (pt_truth ha.run he) fun s H Q ⟨σ, F, Qd, R, q, k⟩ => ⟨σ, F, _, R, q, fun d qd F' H' v g dk r => by
    obtain ⟨b, h1, h2⟩ := truth_of r g.fh qd
    exact ⟨b, h1, k b h2 F' H' g dk⟩⟩⟩
@[simp] def gNotT (ft : GT) (σ : List SV) (Q : Bool → Prop) : Prop := ft σ fun b => Q (!b)
theorem td_not (ha : TD B X a ft) : TD B X (.UnaryOp .Not a pos) (gNotT ft) := ⟨pt_imp (pt_not ha.run) fun s H Q ⟨σ, F, Qd, R, q, k⟩ => ⟨σ, F, _, R, q, fun b qb F' H' g dk => k _ qb F' H' g dk⟩⟩
@[simp] def gAndT (ft fu : GT) (σ : List SV) (Q : Bool → Prop) : Prop := ft σ fun b => iteB b (fu σ Q) (Q false)
@[simp] def gOrT (ft fu : GT) (σ : List SV) (Q : Bool → Prop) : Prop := ft σ fun b => iteB b (Q true) (fu σ Q)
theorem wd_and1 (ha : TD B X a ft) : WDd B X (.BoolOp .And [a] pos) ft := ⟨pw_and1 ha.run⟩
theorem wd_or1 (ha : TD B X a ft) : WDd B X (.BoolOp .Or [a] pos) ft := ⟨pw_or1 ha.run⟩
theorem wd_and (ha : TD B X a ft) (hb : WDd B X (.BoolOp .And (b :: rest) pos) fu) : WDd B X (.BoolOp .And (a :: b :: rest) pos) (gAndT ft fu) :=
  ⟨pw_imp (pw_and ha.run hb.run) fun s H Q ⟨σ, F, Qd, R, q, k⟩ => ⟨σ, F, _, R, q, fun c qc F' H' g dk => by
    cases c with
    | true => exact ⟨σ, F', Qd, R.grow g dk, qc, k.more g⟩
    | false => exact k _ qc F' H' g dk⟩⟩
theorem wd_or (ha : TD B X a ft) (hb : WDd B X (.BoolOp .Or (b :: rest) pos) fu) : WDd B X (.BoolOp .Or (a :: b :: rest) pos) (gOrT ft fu) :=
  ⟨pw_imp (pw_or ha.run hb.run) fun s H Q ⟨σ, F, Qd, R, q, k⟩ => ⟨σ, F, _, R, q, fun c qc F' H' g dk => by
    cases c with
    | false => exact ⟨σ, F', Qd, R.grow g dk, qc, k.more g⟩
    | true => exact k _ qc F' H' g dk⟩⟩
theorem WDd.t (h : WDd B X e ft) : TD B X e ft := ⟨h.run.pt⟩
/-- as values -/
@[simp] def gAnd (fa fb : GE) (σ : List SV) (Q : D → Prop) : Prop := fa σ fun x => truthD x fun b => iteB b (fb σ Q) (Q x)
@[simp] def gOr (fa fb : GE) (σ : List SV) (Q : D → Prop) : Prop := fa σ fun x => truthD x fun b => iteB b (Q x) (fb σ Q)
@[simp] def gNot (fa : GE) (σ : List SV) (Q : D → Prop) : Prop := fa σ fun x => truthD x fun b => Q (.bl (!b))
theorem ed_one {op : BoolOp} (h : ED B X a fa) : ED B X (.BoolOp op [a] pos) fa := ⟨pe_one h.run⟩
theorem ed_and (ha : ED B X a fa) (hb : ED B X (.BoolOp .And (b :: rest) pos) fb) : ED B X (.BoolOp .And (a :: b :: rest) pos) (gAnd fa fb) :=
  ⟨pe_imp (pe_andT ha.run hb.run) fun s H Q ⟨σ, F, Qd, R, q, k⟩ => ⟨σ, F, _, R, q, fun d qd F' H' v g dk r => by
    obtain ⟨c, h1, h2⟩ := truth_of (W := B.W) (.inl r) g.fh qd
    refine ⟨c, h1, ?_⟩
    cases c with
    | true => exact ⟨σ, F', Qd, R.grow g dk, h2, k.more g⟩
    | false => exact k _ h2 F' H' v g dk r⟩⟩
theorem ed_or (ha : ED B X a fa) (hb : ED B X (.BoolOp .Or (b :: rest) pos) fb) : ED B X (.BoolOp .Or (a :: b :: rest) pos) (gOr fa fb) :=
  ⟨pe_imp (pe_orT ha.run hb.run) fun s H Q ⟨σ, F, Qd, R, q, k⟩ => ⟨σ, F, _, R, q, fun d qd F' H' v g dk r => by
    obtain ⟨c, h1, h2⟩ := truth_of (W := B.W) (.inl r) g.fh qd
    refine ⟨c, h1, ?_⟩
    cases c with
    | false => exact ⟨σ, F', Qd, R.grow g dk, h2, k.more g⟩
    | true => exact k _ h2 F' H' v g dk r⟩⟩
theorem ed_not (ha : BD B X a fa) : ED B X (.UnaryOp .Not a pos) (gNot fa) :=
  ⟨pe_imp (pe_notT ha.run) fun s H Q ⟨σ, F, Qd, R, q, k⟩ => ⟨σ, F, _, R, q, fun d qd F' H' v g dk r => by
    obtain ⟨c, h1, h2⟩ := truth_of r g.fh qd
    exact ⟨c, h1, k _ h2 F' H' _ g dk (.bl _)⟩⟩⟩
@[simp] def gIf (ft : GT) (fa fb : GE) (σ : List SV) (Q : D → Prop) : Prop := ft σ fun b => iteB b (fa σ Q) (fb σ Q)
theorem ed_if (hc : TD B X c ft) (ha : ED B X a fa) (hb : ED B X b fb) : ED B X (.IfExp c a b pos) (gIf ft fa fb) :=
  ⟨pe_imp (pe_ifExp hc.run ha.run hb.run) fun s H Q ⟨σ, F, Qd, R, q, k⟩ => ⟨σ, F, _, R, q, fun d qd F' H' g dk => by
    cases d with
    | true => exact ⟨σ, F', Qd, R.grow g dk, qd, k.more g⟩
    | false => exact ⟨σ, F', Qd, R.grow g dk, qd, k.more g⟩⟩⟩
/-! ### arguments, displays -/
@[simp] def gNil (_ : List SV) (Q : List D → Prop) : Prop := Q []
@[simp] def gCons (fa : GE) (fs : GA) (σ : List SV) (Q : List D → Prop) : Prop := fa σ fun x => fs σ fun xs => Q (x :: xs)
theorem ad_nil : AD B X [] gNil := ⟨pa_imp pa_nil fun s H Q ⟨σ, F, Qd, R, q, k⟩ => k _ q F H _ (Grow.refl R.ex) R.deck .nil⟩
theorem ad_cons {fs : GA} (ha : ED B X e fa) (hr : AD B X es fs) (hs : starEach (e :: es) X.env = (false, eval e X.env) :: starEach es X.env := by rfl) : AD B X (e :: es) (gCons fa fs) :=
  ⟨pa_imp (pa_cons ha.run hr.run hs) fun s H Q ⟨σ, F, Qd, R, q, k⟩ => ⟨σ, F, _, R, q, fun d qd F1 H1 v g1 d1 r1 => ⟨σ, F1, _, R.grow g1 d1, qd, fun ds qds F2 H2 vs g2 d2 r2 => k _ qds F2 H2 _ (g1.trans g2) d2 (.cons (r1.mono g2.ff) r2)⟩⟩⟩
theorem abd_nil : ABD B X [] gNil := ⟨pa_imp pa_nil fun s H Q ⟨σ, F, Qd, R, q, k⟩ => k _ q F H _ (Grow.refl R.ex) R.deck .nil⟩
theorem abd_cons {fs : GA} (ha : BD B X e fa) (hr : ABD B X es fs) (hs : starEach (e :: es) X.env = (false, eval e X.env) :: starEach es X.env := by rfl) : ABD B X (e :: es) (gCons fa fs) :=
  ⟨pa_imp (pa_cons ha.run hr.run hs) fun s H Q ⟨σ, F, Qd, R, q, k⟩ => ⟨σ, F, _, R, q, fun d qd F1 H1 v g1 d1 r1 => ⟨σ, F1, _, R.grow g1 d1, qd, fun ds qds F2 H2 vs g2 d2 r2 => k _ qds F2 H2 _ (g1.trans g2) d2 (.cons (r1.grow g2) r2)⟩⟩⟩
@[simp] def gTup (fs : GA) (σ : List SV) (Q : D → Prop) : Prop := fs σ fun xs => xs.length ≤ sizeLine ∧ Q (.tup xs)
@[simp] def gLst (fs : GA) (σ : List SV) (Q : List D → Prop) : Prop := fs σ fun xs => xs.length ≤ sizeLine ∧ Q xs
theorem ed_tup {fs : GA} {x1} (h : AD B X es fs) : ED B X (.Tuple es x1 pos) (gTup fs) :=
  ⟨pe_imp (pe_tup h.run) fun s H Q ⟨σ, F, Qd, R, q, k⟩ => ⟨σ, F, _, R, q, fun ds qd F1 H1 vs g1 d1 r1 => ⟨by rw [r1.length]; exact qd.1, fun p hp =>
    (k.more g1).frz g1.fh d1 qd.2 hp (.tup (SqT.of upd_same) (r1.mono (same_new (g1.fh.free hp))))⟩⟩⟩
theorem fd_lst {fs : GA} (h : AD B X es fs) : FD B X (.List es pos) (gLst fs) :=
  ⟨pe_imp (pe_lst h.run) fun s H Q ⟨σ, F, Qd, R, q, k⟩ => ⟨σ, F, _, R, q, fun ds qd F1 H1 vs g1 d1 r1 => ⟨by rw [r1.length]; exact qd.1, fun p hp => (k.more g1).laid g1.fh d1 qd.2 hp r1⟩⟩⟩

/-! ### items -/
def ixD : D → D → (D → Prop) → Prop
  | .tup xs, .int i, Q => ∃ x, atI xs i = some x ∧ Q x
  | .lst xs, .int i, Q => ∃ x, atI xs i = some x ∧ Q x
  | .str z, .int i, Q => z.length ≤ sizeLine ∧ ∃ c, atI z.cps.toList i = some c ∧ Q (.str ⟨#[c]⟩)
  | _, _, _ => False
theorem Reps.atI {K : Kn} {F : Hp} {vs : List V} {ds : List D} {i : Int} {x : D} (h : Reps K F vs ds) (e : L2.atI ds i = some x) : ∃ v, L2.atI vs i = some v ∧ Rep K F v x := by
  unfold L2.atI at e ⊢
  rw [h.length]
  cases q : ixN ds.length i with
  | none =>
    rw [q] at e
    cases e
  | some j =>
    rw [q] at e
    obtain ⟨v, h1, h2⟩ := h.get (i := j) (x := x) e
    exact ⟨v, h1, h2⟩
theorem ixR_by {r' : R2} (w : ∀ v u H Q, r' v u H Q → ∃ r, IxR X r ∧ r v u H Q) : IxR X r' := fun vl sl pins s σ H x y v u Q I rx ry h hs => by
  obtain ⟨r, h1, h2⟩ := w _ _ _ _ h
  exact h1 vl sl pins s σ H x y v u Q I rx ry h2 hs
theorem o_ix : IxR X (LO2 B X.kn ixD) := ixR_by fun v u H Q ⟨F, x, y, Qd, e, dk, r1, r2, q, k⟩ => by
  unfold ixD at q
  split at q
  · obtain ⟨a, vs, rfl, _, h, s⟩ := r1.tup e
    obtain ⟨x, h1, q⟩ := q
    obtain ⟨w, h2, h3⟩ := s.atI h1
    exact ⟨_, ix_tup, a, vs, _, w, rfl, r2.int, h, h2, k.here e dk q h3⟩
  · obtain ⟨a, vs, rfl, h, s⟩ := r1.lst e
    obtain ⟨x, h1, q⟩ := q
    obtain ⟨w, h2, h3⟩ := s.atI h1
    exact ⟨_, ix_list, a, vs, _, w, rfl, r2.int, SqL.of h, h2, k.here e dk q h3⟩
  · obtain ⟨z, c, h1, q⟩ := q
    exact ⟨_, ix_str, _, _, c, r1.str, r2.int, z, h1, k.here e dk q (.str _)⟩
  · exact q.elim
theorem ed_ix (ha : BD B X a fa) (hb : BD B X b fb) (hs : PlainIx b := by exact fun _ _ => rfl) : ED B X (.Subscript a b pos) (gBin ixD fa fb) :=
  ⟨pe_imp (pe_ix o_ix ha.run hb.run hs) fun s H Q ⟨σ, F, Qd, R, q, k⟩ => lo2_of R q k⟩

/-! ### slices -/
abbrev GO := List SV → (Option Int → Prop) → Prop
def LO (B : Bs) (K : Kn) (f : GO) : TO := fun s H Q => ∃ σ F Qd, Rel B K σ s F H ∧ f σ Qd ∧ ∀ o, Qd o → ∀ F' H', Grow B.W F H F' H' → DeckIn B.W F' H' → Q o H'
structure OD (B : Bs) (X : Cx) (e : Option Expr) (f : GO) : Prop where
  run : PO X e (LO B X.kn f)
theorem po_imp {e : Option Expr} {t t' : TO} (h : PO X e t) (w : ∀ s H Q, t' s H Q → t s H Q) : PO X e t' := ⟨fun pins s σ H Q I q => h.run pins s σ H Q I (w _ _ _ q)⟩
@[simp] def gNoPart (_ : List SV) (Q : Option Int → Prop) : Prop := Q none
def unI (d : D) (Q : Int → Prop) : Prop := ∃ i, d = .int i ∧ Q i
@[simp] theorem unI_i (b : Int) (Q : Int → Prop) : unI (.int b) Q ↔ Q b := ⟨fun ⟨_, e, q⟩ => by cases e; exact q, fun q => ⟨b, rfl, q⟩⟩
@[simp] def gPart (fa : GE) (σ : List SV) (Q : Option Int → Prop) : Prop := fa σ fun d => unI d fun i => Q (some i)
theorem od_none : OD B X none gNoPart := ⟨po_imp po_none fun s H Q ⟨σ, F, Qd, R, q, k⟩ => k _ q F H (Grow.refl R.ex) R.deck⟩
theorem od_some (ha : ED B X a fa) : OD B X (some a) (gPart fa) := ⟨po_imp (po_some ha.run) fun s H Q ⟨σ, F, Qd, R, q, k⟩ => ⟨σ, F, _, R, q, fun d ⟨i, e, q⟩ F' H' v g dk r => by
  subst e
  cases r
  exact ⟨i, rfl, k _ q F' H' g dk⟩⟩⟩
def cutG {α : Type} (xs : List α) (lo hi : Option Int) : List α := (xs.drop (HT.sIx xs.length 0 lo)).take (HT.sIx xs.length xs.length hi - HT.sIx xs.length 0 lo)
theorem Reps.cut {K : Kn} {F : Hp} {vs : List V} {ds : List D} (h : Reps K F vs ds) (lo hi : Option Int) : Reps K F (cutV vs lo hi) (cutG ds lo hi) := by
  unfold cutV cutG
  rw [h.length]
  exact (h.drop _).take _
def slD : D → Option Int → Option Int → (D → Prop) → Prop
  | .tup xs, lo, hi, Q => Q (.tup (cutG xs lo hi))
  | .lst xs, lo, hi, Q => Q (.lst (cutG xs lo hi))
  | .str z, lo, hi, Q => z.length ≤ sizeLine ∧ Q (.str (cutS z lo hi))
  | _, _, _, _ => False
def LSl (B : Bs) (K : Kn) (g : D → Option Int → Option Int → (D → Prop) → Prop) : V → Option Int → Option Int → Hp → VK → Prop := fun v lo hi H Q => ∃ F x Qd, Same F H ∧ DeckIn B.W F H ∧ RepB B.W K F H v x ∧ g x lo hi Qd ∧ Fin B K F H Qd Q
theorem slR_by {r' : V → Option Int → Option Int → Hp → VK → Prop} (w : ∀ v l h H Q, r' v l h H Q → ∃ r, SlR X r ∧ r v l h H Q) : SlR X r' := by
  intro pins s σ H x v vl vu lo hi sl Q I rx hs p1 p2 h
  obtain ⟨r, h1, h2⟩ := w _ _ _ _ _ h
  exact h1 pins s σ H x v vl vu lo hi sl Q I rx hs p1 p2 h2
theorem sIx_zero_full {α : Type} (xs : List α) (lo hi : Option Int) (h : HT.sIx xs.length 0 lo = 0 ∧ HT.sIx xs.length xs.length hi = xs.length) : cutG xs lo hi = xs := by
  unfold cutG
  rw [h.1, h.2]
  simp
theorem o_sl : SlR X (LSl B X.kn slD) := slR_by fun v lo hi H Q ⟨F, x, Qd, e, dk, r1, q, k⟩ => by
  unfold slD at q
  split at q
  · obtain ⟨a, vs, rfl, f1, h, s⟩ := r1.tup e
    refine ⟨_, sl_tupA, a, vs, rfl, h, fun z => ?_, fun z p hp => ?_⟩
    · rw [s.length] at z
      rw [sIx_zero_full _ _ _ z] at q
      exact k.here e dk q (.tup f1 s)
    · exact k.frz e dk q hp (.tup (SqT.of upd_same) ((s.cut _ _).mono (same_new (e.free hp))))
  · obtain ⟨a, vs, rfl, h, s⟩ := r1.lst e
    exact ⟨_, sl_list, a, vs, rfl, SqL.of h, fun p hp => k.frz e dk q hp (.lst upd_same ((s.cut _ _).mono (same_new (e.free hp))))⟩
  · exact ⟨_, sl_str, _, r1.str, q.1, k.here e dk q.2 (.str _)⟩
  · exact q.elim
@[simp] def gSl (g : D → Option Int → Option Int → (D → Prop) → Prop) (fa : GE) (fl fh : GO) (σ : List SV) (Q : D → Prop) : Prop := fa σ fun x => fl σ fun l => fh σ fun h => g x l h Q
theorem ed_sl {lo hi : Option Expr} {fl fh : GO} {p2 : Pos} (ha : BD B X a fa) (hl : OD B X lo fl) (hh : OD B X hi fh) : ED B X (.Subscript a (.Slice lo hi none p2) pos) (gSl slD fa fl fh) :=
  ⟨pe_imp (pe_slice o_sl ha.run hl.run hh.run) fun s H Q ⟨σ, F, Qd, R, q, k⟩ => ⟨σ, F, _, R, q, fun x qx F1 H1 v g1 d1 r1 => ⟨σ, F1, _, R.grow g1 d1, qx, fun l ql F2 H2 g2 d2 =>
    ⟨σ, F2, _, R.grow (g1.trans g2) d2, ql, fun h qh F3 H3 g3 d3 => ⟨F3, x, Qd, g3.fh, d3, (r1.grow g2).grow g3, qh, k.more ((g1.trans g2).trans g3)⟩⟩⟩⟩⟩
end
end ND

/-! ND4: what a def promises, by data; calls -/
namespace ND
open PySem PySem.Spec L2
open PyProof.Rows (envOfC)

/-- an error: its class's name, its attributes -/
structure Er where
  nm : Str
  fs : List (Str × D)
/-- the exception of the class c with the dict o -/
def RepEr (K : Kn) (F H : Hp) (c : Value) (o : Option Addr) (er : Er) : Prop :=
  K.mg er.nm = some c ∧ (er.fs ≠ [] → ∃ a vs, o = some a ∧ H a = some (.xd vs) ∧ RepFs K F vs er.fs) ∧ (er.fs = [] → o = none)
/-- what a def promises: the deck, the arguments, what is wanted of the answer, of an error -/
abbrev DSp := WD → List D → (D → Prop) → (Er → Prop) → Prop
def FinE (W : WT) (K : Kn) (F H : Hp) (Rd : Er → Prop) (E : XK) : Prop := ∀ er, Rd er → ∀ F' H' c o, Grow W F H F' H' → DeckIn W F' H' → RepEr K F' H' c o er → E c o H'
theorem FinE.more {W : WT} {K : Kn} {F H F' H' : Hp} {Rd : Er → Prop} {E : XK} (h : FinE W K F H Rd E) (g : Grow W F H F' H') : FinE W K F' H' Rd E := fun er q F2 H2 c o g2 d r => h er q F2 H2 c o (g.trans g2) d r
theorem FinE.none {W : WT} {K : Kn} {F H : Hp} : FinE W K F H (fun _ => False) E0 := fun _ q _ _ _ _ _ _ _ => q
def liftSp (K : Kn) (T : List (Addr × Str)) (sp : DSp) : Sp := fun vs H Q E => ∃ (W : WD) (F : Hp) (ds : List D) (Qd : D → Prop) (Rd : Er → Prop), Same F H ∧ DeckIn ⟨W, T⟩ F H ∧ Reps K F vs ds ∧ sp W ds Qd Rd ∧ Fin ⟨⟨W, T⟩, F, H⟩ K F H Qd Q ∧ FinE ⟨W, T⟩ K F H Rd E

/-- as FnOk, where nothing is being shown around -/
structure FnG (P : Program) (w : World) (K : PySem.W.Frag) (mg : Str → Option Value) (base : Heap) (k : Nat) (f : Addr) (fd : FuncData) (ps : List Str) (sp : Sp) : Prop where
  len : ∀ vs H Q E, sp vs H Q E → vs.length = ps.length
  run : ∀ (A : Around) (outer : List Env) (s : Shared) (H : Hp) (args : Args) (us : List Value) (vs : List V) (Q : VK) (E : XK), A.guards = some [] → Room k A → Env0 P w K mg base A outer s H → BindsTo s fd args (ps.zip us) → Vals vs us → sp vs H Q E →
    codeAny (model P w) A (.call (.ref f) args) (CR (L2.CX P w) outer P w H s Q E) s
theorem FnG.of {P : Program} {w : World} {K : PySem.W.Frag} {mg : Str → Option Value} {base : Heap} {k : Nat} {f : Addr} {fd : FuncData} {ps : List Str} {sp : Sp} (F : FnOk P w K mg base (L2.CX P w) k f fd ps sp) : FnG P w K mg base k f fd ps sp :=
  ⟨F.len, fun A outer s H args us vs Q E _ => F.run A outer s H args us vs Q E⟩
section
variable {P : Program} {w : World} {K : PySem.W.Frag} {mg : Str → Option Value} {base : Heap} {k : Nat} {f : Addr} {qual name : Str} {scope : Scope} {cdv : Value} {N ps : List Str}
/-- how a body ends is how its call ends -/
theorem ends_call {A : Around} {outer : List Env} {s z : Shared} {H : Hp} {E : XK} {Q : VK} : ∀ {fl : Flow}, SP (cxOf (L2.CX P w) P w K mg base N qual scope f cdv A outer s H E) [] { nx := fun _ G => Q .non G, rt := Q } fl z →
    match fl with | .ret u => CE outer P w H s Q u z | .next => CE outer P w H s Q .none z | _ => False
  | .next, ⟨_, G, I, q⟩ => ⟨.non, G, I.os, I.bare, I.base, I.hok, rfl, q⟩
  | .ret _, ⟨v, _, G, I, r, q⟩ => ⟨v, G, I.os, I.bare, I.base, I.hok, r, q⟩
  | .brk, ⟨_, _, _, q⟩ => q
  | .cont, ⟨_, _, _, q⟩ => q
theorem par_kinds (S : FnScope N ps scope) {us : List Value} {n : Nat} : ∀ y ∈ ps.zip us, scope.names.lookup y.1 = some .local ∨ (scope.names.lookup y.1 = some .cell ∧ ((cellsFrom n scope.names []).lookup y.1).isSome = true) :=
  fun y hy => (S.par y.1 (List.of_mem_zip (show (y.1, y.2) ∈ _ from hy)).1).imp id fun q => ⟨q, PySem.W.cellsFrom_some _ _ _ (.inl q)⟩
/-- a def by its body, where nothing is being shown around -/
theorem fn_ofG {params : Arguments} {body : List Stmt} {dV kV doc pm ct oc : Value} {an od : Option Addr} {osl : Array (Option Value)} {sp : Sp}
    (at_f : K.lookup f = some ⟨oc, od, .func (PySem.W.fnOf name qual params body scope dV kV doc pm an cdv ct), osl⟩) (code : PySem.W.codeIn K cdv qual = true) (S : FnScope N ps scope) (cnt : ∀ vs H Q E, sp vs H Q E → vs.length = ps.length)
    (walk : ∀ (A : Around) (outer : List Env) (s : Shared) (H : Hp) (vs : List V) (Q : VK) (E : XK), (A.deeper (envOfC qual scope s.heap.objs.size f cdv)).guards = some [] → Room k (A.deeper (envOfC qual scope s.heap.objs.size f cdv)) → sp vs H Q E →
      ∃ t, PSs (cxOf (L2.CX P w) P w K mg base N qual scope f cdv A outer s H E) body t ∧ t { nx := fun _ G => Q .non G, rt := Q } (start N vs) H) :
    FnG P w K mg base (k + 1) f (PySem.W.fnOf name qual params body scope dV kV doc pm an cdv ct) ps sp :=
  ⟨cnt, fun A outer s H args us vs Q E quiet room env bound vals want => by
    have stands : ∀ b o, base.get? b = some o → s.heap.get? b = some o := fun b o e => (env.bs b o e).1
    have inK := env.mod.kin.keeps stands
    obtain ⟨t, does, goal⟩ := walk A outer s H vs Q E quiet (room.deeper _) want
    exact codeAny_call_function room.depth (inK _ _ at_f) rfl S.co S.gen rfl (PySem.W.codeRec_of inK code) (bound _ _ _ _ (wpAny_newFunctionEnv_cells S.kind (par_kinds S) fun e same z entered => by
      cases same
      exact ⟨(env.mod.nolimit.keeps stands).keeps entered.toInCall.keep, codeAny_func (wpAny_mono (does.run [] z (start N vs) H _ (inv_start S room.hd env (cnt _ _ _ _ want) vals entered) goal)
        (fun fl z2 q => by
          have r := ends_call q
          cases fl <;> first | exact r | exact r.elim) fun _ _ q => q)⟩))⟩
end

/-! ### calls of a def of the module, by position -/
@[simp] def gCall (sp : DSp) (W : WD) (R : Er → Prop) (fs : GA) (σ : List SV) (Q : D → Prop) : Prop := fs σ fun ds => sp W ds Q R
section
variable {B : Bs} {X : Cx} {k : Nat} {f : Addr} {fd : FuncData} {ps : List Str} {sp : DSp} {R : Er → Prop} {E : XK} {x : Str} {p pos : Pos} {e : Expr} {es : List Expr} {fs : GA}
theorem la_call {s : L2.St} {σ : List SV} {F H : Hp} {Qd : D → Prop} {Q : VK} {K : Kn} (hE : FinE B.W K B.F B.H R E) (Rl : Rel B K σ s F H) (q : gCall sp B.W.p R fs σ Qd) (kf : Fin B K F H Qd Q) : LA B K fs s H fun vs H1 => liftSp K B.W.T sp (vs ++ []) H1 Q E :=
  ⟨σ, F, _, Rl, q, fun ds qds F1 H1 vs g1 d1 r1 => ⟨B.W.p, F1, ds, Qd, R, g1.fh, d1, by rw [List.append_nil]; exact r1, qds, fun d qd F2 H2 v g2 d2 r2 => kf d qd F2 H2 v (g1.trans g2) d2 r2, hE.more (Rl.base.trans g1)⟩⟩
theorem ed_call (G : FnOk X.prog X.w X.K X.mg X.base (L2.CX X.prog X.w) k f fd ps (liftSp X.kn B.W.T sp)) (hr : Room k X.A) (hg : Gl X x) (hm : X.mg x = some (.ref f)) (hk : PySem.W.keepIn X.K (.ref f) = true) (hb : Binds X.K fd ps []) (hx : Passes (L2.CX X.prog X.w) X E) (hE : FinE B.W X.kn B.F B.H R E)
    (ha : AD B X (e :: es) fs) (hdb : (x == ("__debug__" : Str)) = false := by decide) (he : starEach (e :: es) X.env = (false, eval e X.env) :: starEach es X.env := by rfl) (hpl : (backTo pos (starEach es X.env)).any (·.1) = false := by rfl) :
    ED B X (.Call (.Name x p) (e :: es) [] pos) (gCall sp B.W.p R fs) :=
  ⟨pe_imp (pe_call G hr hg hm hk hb .nil hx ha.run hdb he hpl) fun s H Q ⟨σ, F, Qd, Rl, q, kf⟩ => la_call hE Rl q kf⟩
/-- a call's end, back in the caller -/
theorem back_in {pins : List (Addr × Obj)} {σ : L2.St} {H : Hp} {s z : Shared} {Q : VK} (I : Inv X pins σ H s) (lets : Passes (L2.CX X.prog X.w) X E) : ∀ {r : Result}, CR (L2.CX X.prog X.w) X.stack X.prog X.w H s Q E r z →
    match r with | .ok (.ret u) => EP X pins σ Q u z | .ok _ => False | .error e => X.xe e z
  | .ok (.ret _), h => I.after h
  | .ok .next, h => h
  | .ok .brk, h => h
  | .ok .cont, h => h
  | .error _, h => lets _ _ _ _ _ _ I h
theorem pe_callG {sp : Sp} {t : TA} (F : FnG X.prog X.w X.K X.mg X.base k f fd ps sp) (quiet : X.A.guards = some []) (room : Room k X.A) (glob : Gl X x) (isf : X.mg x = some (.ref f)) (kept : PySem.W.keepIn X.K (.ref f) = true) (bind : Binds X.K fd ps []) (lets : Passes (L2.CX X.prog X.w) X E) (args : PA X (e :: es) t)
    (ndb : (x == ("__debug__" : Str)) = false := by decide) (star : starEach (e :: es) X.env = (false, eval e X.env) :: starEach es X.env := by rfl) (plain : (backTo pos (starEach es X.env)).any (·.1) = false := by rfl) :
    PE X (.Call (.Name x p) (e :: es) [] pos) (fun σ H Q => t σ H fun vs G => sp vs G Q E) :=
  ⟨fun pins s σ H Q I h => wpAny_Call_Name_kw (ld_glob I glob isf (PySem.W.callWith_K (h₀ := X.base) I.ok.mod.kin kept (thn (args.run pos pins s σ H _ I h) fun us z ⟨vs, G, J, vals, q⟩ => ⟨J.kIn, by
    have n : us.length = ps.length := (Vals.length vals).symm.trans (F.len _ _ _ _ q)
    have bd := bind z us J.kIn (by rw [List.append_nil]; exact n)
    rw [List.append_nil] at bd
    refine wpAny_call (codeAny_mono (F.run X.A X.stack z G ⟨us, []⟩ us vs Q E quiet room J.env0 bd vals q) fun r z2 o => ?_)
    have b := back_in J lets o
    rcases r with _ | fl
    · exact b
    · cases fl <;> first | exact b | exact b.elim⟩) star plain) ndb)⟩
theorem ed_callG (G : FnG X.prog X.w X.K X.mg X.base k f fd ps (liftSp X.kn B.W.T sp)) (hG : X.A.guards = some []) (hr : Room k X.A) (hg : Gl X x) (hm : X.mg x = some (.ref f)) (hk : PySem.W.keepIn X.K (.ref f) = true) (hb : Binds X.K fd ps []) (hx : Passes (L2.CX X.prog X.w) X E) (hE : FinE B.W X.kn B.F B.H R E)
    (ha : AD B X (e :: es) fs) (hdb : (x == ("__debug__" : Str)) = false := by decide) (he : starEach (e :: es) X.env = (false, eval e X.env) :: starEach es X.env := by rfl) (hpl : (backTo pos (starEach es X.env)).any (·.1) = false := by rfl) :
    ED B X (.Call (.Name x p) (e :: es) [] pos) (gCall sp B.W.p R fs) :=
  ⟨pe_imp (pe_callG G hG hr hg hm hk hb hx ha.run hdb he hpl) fun s H Q ⟨σ, F, Qd, Rl, q, kf⟩ => by
    have z := la_call (s := s) (Q := Q) hE Rl q kf
    simpa using z⟩

/-! ### by keywords: n positional values, m by keyword, put in the order pm -/
def permA {α : Type} (n m : Nat) (pm : List Nat) (us ws : List α) : List α := if us.length = n ∧ ws.length = m then pm.filterMap fun i => (us ++ ws)[i]? else []
theorem paired_app {α β : Type} {R : α → β → Prop} : ∀ {a c : List α} {b d : List β}, Paired R a b → Paired R c d → Paired R (a ++ c) (b ++ d)
  | _, _, _, _, .nil, h => h
  | _, _, _, _, .cons r t, h => .cons r (paired_app t h)
theorem paired_at {α β : Type} {R : α → β → Prop} : ∀ {a : List α} {b : List β} (i : Nat), Paired R a b → (a[i]? = none ∧ b[i]? = none) ∨ ∃ x y, a[i]? = some x ∧ b[i]? = some y ∧ R x y
  | _, _, _, .nil => .inl ⟨by simp, by simp⟩
  | _, _, 0, .cons r _ => .inr ⟨_, _, rfl, rfl, r⟩
  | _, _, i + 1, .cons _ t => by simpa using paired_at i t
theorem paired_pick {α β : Type} {R : α → β → Prop} {a : List α} {b : List β} (h : Paired R a b) : ∀ pm : List Nat, Paired R (pm.filterMap fun i => a[i]?) (pm.filterMap fun i => b[i]?)
  | [] => .nil
  | i :: pm => by
    rw [List.filterMap_cons, List.filterMap_cons]
    rcases paired_at i h with ⟨e1, e2⟩ | ⟨x, y, e1, e2, r⟩
    · rw [e1, e2]
      exact paired_pick h pm
    · rw [e1, e2]
      exact .cons r (paired_pick h pm)
theorem paired_len {α β : Type} {R : α → β → Prop} {a : List α} {b : List β} (h : Paired R a b) : a.length = b.length := Paired.length h
theorem paired_perm {α β : Type} {R : α → β → Prop} {n m : Nat} {pm : List Nat} {us ws : List α} {us' ws' : List β} (h : Paired R us us') (h' : Paired R ws ws') : Paired R (permA n m pm us ws) (permA n m pm us' ws') := by
  unfold permA
  rw [paired_len h, paired_len h']
  split
  · exact paired_pick (paired_app h h') pm
  · exact .nil
theorem Reps.pair {K : Kn} {F : Hp} : ∀ {vs : List V} {ds : List D}, Reps K F vs ds → Paired (Rep K F) vs ds
  | _, _, .nil => .nil
  | _, _, .cons r t => .cons r (Reps.pair t)
theorem Reps.of_pair {K : Kn} {F : Hp} : ∀ {vs : List V} {ds : List D}, Paired (Rep K F) vs ds → Reps K F vs ds
  | _, _, .nil => .nil
  | _, _, .cons r t => .cons r (Reps.of_pair t)
theorem kb_perm {K : PySem.W.Frag} {ks : List Str} {n m : Nat} {pm : List Nat} (hp : ps ≠ []) (h : ∀ us ws : List Value, us.length = n → ws.length = m → bindArgs fd ⟨us, ks.zip ws⟩ = pure (ps.zip (permA n m pm us ws))) : KBinds K fd ps ks (permA n m pm) (permA n m pm) :=
  ⟨fun s us ws _ hl => by
    have hc : us.length = n ∧ ws.length = m := by
      by_cases c : us.length = n ∧ ws.length = m
      · exact c
      · exfalso
        unfold permA at hl
        rw [if_neg c] at hl
        cases ps with
        | nil => exact hp rfl
        | cons _ _ => simp at hl
    exact .of_eq (h us ws hc.1 hc.2), fun r1 r2 => paired_perm r1 r2⟩
structure KD (B : Bs) (X : Cx) (kws : List Keyword) (f : GA) : Prop where
  run : PK X kws (LA B X.kn f)
theorem pk_imp {X : Cx} {kws : List Keyword} {t t' : TA} (h : PK X kws t) (w : ∀ s H Q, t' s H Q → t s H Q) : PK X kws t' := ⟨fun pos pins s σ H Q I q => h.run pos pins s σ H Q I (w _ _ _ q)⟩
theorem kd_nil : KD B X [] gNil := ⟨pk_imp pk_nil fun s H Q ⟨σ, F, Qd, R, q, k⟩ => k _ q F H _ (Grow.refl R.ex) R.deck .nil⟩
theorem kd_cons {nm : Option Str} {kpos : Pos} {kws : List Keyword} {fa : GE} (ha : ED B X e fa) (hr : KD B X kws fs) : KD B X (⟨nm, e, kpos⟩ :: kws) (gCons fa fs) :=
  ⟨pk_imp (pk_cons ha.run hr.run) fun s H Q ⟨σ, F, Qd, R, q, k⟩ => ⟨σ, F, _, R, q, fun d qd F1 H1 v g1 d1 r1 => ⟨σ, F1, _, R.grow g1 d1, qd, fun ds qds F2 H2 vs g2 d2 r2 => k _ qds F2 H2 _ (g1.trans g2) d2 (.cons (r1.mono g2.ff) r2)⟩⟩⟩
/-- f(e, .., k = v, ..) or f(k = v, ..) -/
@[simp] def gCallK (sp : DSp) (n m : Nat) (pm : List Nat) (W : WD) (R : Er → Prop) (fs fk : GA) (σ : List SV) (Q : D → Prop) : Prop := fs σ fun us => fk σ fun ws => sp W (permA n m pm us ws) Q R
variable {ks : List Str} {kws : List Keyword} {fk : GA} {n m : Nat} {pm : List Nat}
theorem pe_callK0 {sp : Sp} {gV : List V → List V → List V} {g : List Value → List Value → List Value} {tk : TA} (F : FnOk X.prog X.w X.K X.mg X.base (L2.CX X.prog X.w) k f fd ps sp) (room : Room k X.A) (glob : Gl X x) (isf : X.mg x = some (.ref f)) (kept : PySem.W.keepIn X.K (.ref f) = true)
    (bind : KBinds X.K fd ps ks g gV) (lets : Passes (L2.CX X.prog X.w) X E) (named : PK X kws tk) (each : (backToKw pos (keywordEach kws X.env)).all (·.1.isSome) = true := by rfl) (order : (backToKw pos (keywordEach kws X.env)).filterMap (·.1) = ks := by rfl) (ndb : (x == ("__debug__" : Str)) = false := by decide)
    (plain : ((backTo pos (starEach [] X.env)).any (·.1) || (backToKw pos (keywordEach kws X.env)).any (·.1.isNone)) = false := by rfl) : PE X (.Call (.Name x p) [] kws pos) (tCallK sp gV E tNil tk) :=
  ⟨fun pins s σ H Q I h => wpAny_Call_Name_kw (ld_glob I glob isf (PySem.W.callWith_KW0 (h₀ := X.base) I.ok.mod.kin kept each (thn (named.run pos pins s σ H _ I h) fun ws z ⟨zs, G, J, vals, q⟩ => ⟨J.kIn, order ▸ run_fnk (us := []) (vs := []) F room bind lets J .nil vals q⟩) plain) ndb)⟩
theorem ed_callK0 (G : FnOk X.prog X.w X.K X.mg X.base (L2.CX X.prog X.w) k f fd ps (liftSp X.kn B.W.T sp)) (hr : Room k X.A) (hg : Gl X x) (hm : X.mg x = some (.ref f)) (hk : PySem.W.keepIn X.K (.ref f) = true) (hb : KBinds X.K fd ps ks (permA n m pm) (permA n m pm)) (hx : Passes (L2.CX X.prog X.w) X E) (hE : FinE B.W X.kn B.F B.H R E)
    (hkw : KD B X kws fk) (hall : (backToKw pos (keywordEach kws X.env)).all (·.1.isSome) = true := by rfl) (hks : (backToKw pos (keywordEach kws X.env)).filterMap (·.1) = ks := by rfl)
    (hdb : (x == ("__debug__" : Str)) = false := by decide)
    (hpl : ((backTo pos (starEach [] X.env)).any (·.1) || (backToKw pos (keywordEach kws X.env)).any (·.1.isNone)) = false := by rfl) :
    ED B X (.Call (.Name x p) [] kws pos) (gCallK sp n m pm B.W.p R gNil fk) :=
  ⟨pe_imp (pe_callK0 G hr hg hm hk hb hx hkw.run hall hks hdb hpl) fun s H Q ⟨σ, F, Qd, Rl, q, kf⟩ => ⟨σ, F, _, Rl, q, fun zs qzs F2 H2 ws g2 d2 r2 => ⟨B.W.p, F2, _, Qd, R, g2.fh, d2, Reps.of_pair (paired_perm .nil r2.pair), qzs,
    fun d qd F3 H3 v g3 d3 r3 => kf d qd F3 H3 v (g2.trans g3) d3 r3, hE.more (Rl.base.trans g2)⟩⟩⟩
end
end ND

/-! ND5: statements, loops -/
namespace ND
open PySem PySem.Spec L2
open PyProof.Rows (envOfC)

/-- what is wanted behind a statement, by data -/
structure Ed where
  nx : List SV → Prop
  rt : D → Prop
  bk : List SV → Prop
  ct : List SV → Prop
abbrev GS := Ed → List SV → Prop
structure EdOk (B : Bs) (K : Kn) (F : Hp) (E : Ed) (Dn : Ends) : Prop where
  nx : ∀ σ s F' H, Same F F' → Rel B K σ s F' H → E.nx σ → Dn.nx s H
  rt : ∀ d v F' H, Grow B.W B.F B.H F' H → DeckIn B.W F' H → Rep K F' v d → E.rt d → Dn.rt v H
  bk : ∀ σ s F' H, Same F F' → Rel B K σ s F' H → E.bk σ → Dn.bk s H
  ct : ∀ σ s F' H, Same F F' → Rel B K σ s F' H → E.ct σ → Dn.ct s H
def LS (B : Bs) (K : Kn) (g : GS) : TS := fun Dn s H => ∃ σ F E, Rel B K σ s F H ∧ g E σ ∧ EdOk B K F E Dn
structure SD (B : Bs) (X : Cx) (st : Stmt) (g : GS) : Prop where
  run : PS X st (LS B X.kn g)
structure SDs (B : Bs) (X : Cx) (sts : List Stmt) (g : GS) : Prop where
  run : PSs X sts (LS B X.kn g)
theorem EdOk.more {B : Bs} {K : Kn} {F F' : Hp} {E : Ed} {Dn : Ends} (h : EdOk B K F E Dn) (e : Same F F') : EdOk B K F' E Dn :=
  ⟨fun σ s F2 H a => h.nx σ s F2 H (e.trans a), h.rt, fun σ s F2 H a => h.bk σ s F2 H (e.trans a), fun σ s F2 H a => h.ct σ s F2 H (e.trans a)⟩
theorem ps_imp {X : Cx} {st : Stmt} {t t' : TS} (h : PS X st t) (w : ∀ Dn s H, t' Dn s H → t Dn s H) : PS X st t' := ⟨fun pins s σ H Dn I q => h.run pins s σ H Dn I (w _ _ _ q)⟩
theorem pss_imp {X : Cx} {st : List Stmt} {t t' : TS} (h : PSs X st t) (w : ∀ Dn s H, t' Dn s H → t Dn s H) : PSs X st t' := ⟨fun pins s σ H Dn I q => h.run pins s σ H Dn I (w _ _ _ q)⟩

@[simp] def gSkip (E : Ed) (σ : List SV) : Prop := E.nx σ
@[simp] def gSeq (g h : GS) (E : Ed) (σ : List SV) : Prop := g { E with nx := h E } σ
@[simp] def gDrop (fa : GE) (E : Ed) (σ : List SV) : Prop := fa σ fun _ => E.nx σ
@[simp] def gSet (i : Nat) (fa : GE) (E : Ed) (σ : List SV) : Prop := fa σ fun d => E.nx (σ.set i (.d d))
@[simp] def gSetL (i : Nat) (fa : GA) (E : Ed) (σ : List SV) : Prop := fa σ fun ds => E.nx (σ.set i (.ol ds))
@[simp] def gRet (fa : GE) (E : Ed) (σ : List SV) : Prop := fa σ E.rt
@[simp] def gIfS (ft : GT) (g h : GS) (E : Ed) (σ : List SV) : Prop := ft σ fun b => iteB b (g E σ) (h E σ)
/-- a slot of one's own becomes data -/
def fz (i : Nat) (σ : List SV) : List SV := match σ[i]? with
  | some (.ol xs) => σ.set i (.d (.lst xs))
  | some (.od ks) => σ.set i (.d (.dic ks))
  | _ => σ
def gFz (i : Nat) (g : GS) : GS := fun E σ => g E (fz i σ)

section
variable {B : Bs} {X : Cx} {e a b c : Expr} {es : List Expr} {fa fb : GE} {fs : GA} {ft : GT} {g h : GS} {pos : Pos} {st : Stmt} {rest sts sts' : List Stmt}
theorem sds_nil : SDs B X [] gSkip := ⟨pss_imp pss_nil fun Dn s H ⟨σ, F, E, R, q, k⟩ => k.nx σ s F H (Same.refl F) R q⟩
theorem sds_cons (h1 : SD B X st g) (h2 : SDs B X rest h) : SDs B X (st :: rest) (gSeq g h) :=
  ⟨pss_imp (pss_cons h1.run h2.run) fun Dn s H ⟨σ, F, E, R, q, k⟩ => ⟨σ, F, { E with nx := h E }, R, q, ⟨fun σ' s' F' H' e R' q' => ⟨σ', F', E, R', q', k.more e⟩, k.rt, k.bk, k.ct⟩⟩⟩
theorem sds_one (h1 : SD B X st g) : SDs B X [st] g := ⟨pss_one h1.run⟩
theorem sd_drop (ha : BD B X e fa) (hs : swapsWith e none pos.line X.env = pure false := by rfl) : SD B X (.Expr e pos) (gDrop fa) :=
  ⟨ps_imp (ps_expr ha.run hs) fun Dn s H ⟨σ, F, E, R, q, k⟩ => ⟨σ, F, _, R, q, fun d qd F' H' v g dk r => k.nx σ s F' H' g.ff (R.grow g dk) qd⟩⟩
theorem sd_set {i : Nat} {x : Str} {pos' : Pos} (hN : X.N.Nodup) (hi : X.N[i]? = some x) (hx : Loc X.env.scope x) (ha : ED B X e fa) (hs : swapsWith e (some (.Name x pos')) pos.line X.env = pure false := by rfl) (hf : X.fn x = true ∨ X.env.scope.names.lookup x = some .local := by first | exact .inl rfl | exact .inr rfl | assumption) :
    SD B X (.Assign [.Name x pos'] e pos) (gSet i fa) :=
  ⟨ps_imp (ps_set hN hi hx ha.run hs hf) fun Dn s H ⟨σ, F, E, R, q, k⟩ => ⟨σ, F, _, R, q, fun d qd F' H' v g dk r => k.nx _ _ F' H' g.ff ((R.grow g dk).set r) qd⟩⟩
theorem sd_setL {i : Nat} {x : Str} {pos' : Pos} (hN : X.N.Nodup) (hi : X.N[i]? = some x) (hx : Loc X.env.scope x) (ha : FD B X e fs) (hs : swapsWith e (some (.Name x pos')) pos.line X.env = pure false := by rfl) (hf : X.fn x = true ∨ X.env.scope.names.lookup x = some .local := by first | exact .inl rfl | exact .inr rfl | assumption) :
    SD B X (.Assign [.Name x pos'] e pos) (gSetL i fs) :=
  ⟨ps_imp (ps_set hN hi hx ha.run hs hf) fun Dn s H ⟨σ, F, E, R, q, k⟩ => ⟨σ, F, _, R, q, fun ds qd F' H' p vs g dk hp fp ep r => k.nx _ _ F' H' g.ff (R.setNew (x := .ol ds) g dk hp fp ⟨rfl, vs, ep, r⟩) qd⟩⟩
theorem sd_ret (ha : ED B X e fa) : SD B X (.Return (some e) pos) (gRet fa) :=
  ⟨ps_imp (ps_ret ha.run) fun Dn s H ⟨σ, F, E, R, q, k⟩ => ⟨σ, F, _, R, q, fun d qd F' H' v g dk r => k.rt d v F' H' (R.base.trans g) dk r qd⟩⟩
theorem sd_if (hc : TD B X c ft) (h1 : SDs B X sts g) (h2 : SDs B X sts' h) : SD B X (.If c sts sts' pos) (gIfS ft g h) :=
  ⟨ps_imp (ps_if hc.run h1.run h2.run) fun Dn s H ⟨σ, F, E, R, q, k⟩ => ⟨σ, F, _, R, q, fun d qd F' H' g dk => by
    cases d with
    | true => exact ⟨σ, F', E, R.grow g dk, qd, k.more g.ff⟩
    | false => exact ⟨σ, F', E, R.grow g dk, qd, k.more g.ff⟩⟩⟩
theorem ls_fz {K : Kn} {i : Nat} {Dn : Ends} {s : L2.St} {H : Hp} (h : LS B K (gFz i g) Dn s H) : LS B K g Dn s H := by
  obtain ⟨σ, F, E, R, q, k⟩ := h
  unfold gFz fz at q
  split at q
  · rename_i xs e
    obtain ⟨a, vs, h1, h2, h3, h4, h5, h6⟩ := R.ownL e
    exact ⟨_, upd F a (.lst vs), E, R.freeze e h1 h2 h5 h6 h4 (.inl ⟨_, rfl⟩) (.lst upd_same (h3.mono (same_new h5))), q, k.more (same_new h5)⟩
  · rename_i xs e
    obtain ⟨a, vs, h1, h2, h3, h4, h5, h6⟩ := R.ownD e
    exact ⟨_, upd F a (.dK vs), E, R.freeze e h1 h2 h5 h6 h4 (.inr (.inl ⟨_, rfl⟩)) (.dic upd_same (h3.mono (same_new h5))), q, k.more (same_new h5)⟩
  · exact ⟨σ, F, E, R, q, k⟩
theorem sd_fz (i : Nat) (h : SD B X st g) : SD B X st (gFz i g) := ⟨ps_imp h.run fun _ _ _ q => ls_fz q⟩

/-! ### several targets -/
/-- the slots is take the data ds -/
@[simp] def setAll : List Nat → List D → List SV → List SV
  | i :: is, d :: ds, σ => setAll is ds (σ.set i (.d d))
  | _, _, σ => σ
def setAllV : List Nat → List V → L2.St → L2.St
  | i :: is, v :: vs, s => setAllV is vs (s.set i (some v))
  | _, _, s => s
theorem Rel.sets {K : Kn} {F H : Hp} : ∀ {is : List Nat} {ds : List D} {vs : List V} {σ : List SV} {s : L2.St}, Rel B K σ s F H → Reps K F vs ds → Rel B K (setAll is ds σ) (setAllV is vs s) F H
  | [], ds, vs, σ, s, R, h => by
    cases ds <;> cases vs <;> exact R
  | i :: is, [], vs, σ, s, R, h => by
    cases h
    exact R
  | i :: is, d :: ds, vs, σ, s, R, h => by
    cases h with
    | @cons v vs _ _ r t =>
      show Rel B K (ND.setAll is ds (σ.set i (.d d))) (setAllV is vs (s.set i (some v))) F H
      exact Rel.sets (R.set r) t
def unT (n : Nat) (d : D) (Q : List D → Prop) : Prop := ∃ ds, d = .tup ds ∧ ds.length = n ∧ Q ds
@[simp] theorem unT_t (n : Nat) (b : List D) (Q : List D → Prop) : unT n (.tup b) Q ↔ b.length = n ∧ Q b := ⟨fun ⟨_, e, q⟩ => by cases e; exact q, fun q => ⟨b, rfl, q⟩⟩
@[simp] def gSetT (is : List Nat) (fa : GE) (E : Ed) (σ : List SV) : Prop := fa σ fun d => unT is.length d fun ds => E.nx (setAll is ds σ)
/-- targets: names in the slots is -/
structure NamesAt (X : Cx) (ts : List Expr) (is : List Nat) : Prop where
  run : PGs X ts fun vs σ H Q => vs.length = is.length ∧ Q (setAllV is vs σ) H
theorem na_nil : NamesAt X [] [] := ⟨⟨fun pins s σ H vs us Q I r h => by
  obtain ⟨h1, h2⟩ := h
  cases vs with
  | nil => exact pgs_nil.run pins s σ H [] us Q I r ⟨rfl, h2⟩
  | cons _ _ => simp at h1⟩⟩
theorem na_cons {i : Nat} {is : List Nat} {t : Expr} {ts : List Expr} (h1 : PG X t (gName i)) (h2 : NamesAt X ts is) (hs : (assignEach (t :: ts) X.env).map (·.2) = assign t X.env :: (assignEach ts X.env).map (·.2) := by rfl) : NamesAt X (t :: ts) (i :: is) := ⟨⟨fun pins s σ H vs us Q I r h => by
  obtain ⟨hl, hq⟩ := h
  cases vs with
  | nil => simp at hl
  | cons v vs => exact (pgs_cons h1 h2.run hs).run pins s σ H _ us Q I r ⟨v, vs, rfl, by simpa using hl, hq⟩⟩⟩
theorem sd_setT {is : List Nat} {ts : List Expr} {kt : Nat} {pt : Pos} (hc : X.calm = true) (hn : NamesAt X ts is) (ha : ED B X e fa) (hs : swapsWithSole [.Tuple ts kt pt] e pos.line X.env = pure false := by rfl) (hw : swappedStores [.Tuple ts kt pt] e X.env = pure none := by rfl)
    (h1 : (assignEach [.Tuple ts kt pt] X.env).map (·.2) = [assign (.Tuple ts kt pt) X.env] := by rfl) (hl : (assignEach ts X.env).length = is.length := by rfl) (hst : (assignEach ts X.env).findIdx? (·.1) = none := by rfl) :
    SD B X (.Assign [.Tuple ts kt pt] e pos) (gSetT is fa) :=
  ⟨ps_imp (ps_asg ha.run (pg_tup hc hn.run hl hst) hs hw h1) fun Dn s H ⟨σ, F, E, R, q, k⟩ => ⟨σ, F, _, R, q, fun d ⟨ds, e, hl, qd⟩ F' H' v g dk r => by
    subst e
    cases r with
    | tup h r => exact ⟨_, _, rfl, same_t g.fh h, by rw [r.length]; exact hl, by rw [r.length]; exact hl, k.nx _ _ F' H' g.ff ((R.grow g dk).sets r) qd⟩⟩⟩
/-- a, b = x, y with plain local names -/
@[simp] def gPar (is : List Nat) (fs : GA) (E : Ed) (σ : List SV) : Prop := fs σ fun ds => ds.length = is.length ∧ E.nx (setAll is ds σ)
theorem sd_par2 {i j : Nat} {x y : Str} {px py pt : Pos} {kt k2 pt2} (hc : X.calm = true) (hN : X.N.Nodup) (hi : X.N[i]? = some x) (hj : X.N[j]? = some y) (hij : i ≠ j)
    (hx : X.env.scope.names.lookup x = some .local) (hy : X.env.scope.names.lookup y = some .local) (ha : AD B X [a, b] fs)
    (hw : swappedStores [.Tuple [.Name x px, .Name y py] kt pt] (.Tuple [a, b] k2 pt2) X.env = pure (some [x, y]))
    (hs : swapsWithSole [.Tuple [.Name x px, .Name y py] kt pt] (.Tuple [a, b] k2 pt2) pos.line X.env = pure false := by rfl) :
    SD B X (.Assign [.Tuple [.Name x px, .Name y py] kt pt] (.Tuple [a, b] k2 pt2) pos) (gPar [i, j] fs) :=
  ⟨ps_imp (ps_par hc hN hi hj hij hx hy ha.run hw hs) fun Dn s H ⟨σ, F, E, R, q, k⟩ => ⟨σ, F, _, R, q, fun ds ⟨hl, qd⟩ F' H' vs g dk r => by
    have R2 := (R.grow g dk).sets (is := [i, j]) r
    cases r with
    | nil => simp at hl
    | cons r1 r =>
      cases r with
      | nil => simp at hl
      | cons r2 r =>
        cases r with
        | cons _ _ => simp at hl
        | nil => exact ⟨_, _, rfl, k.nx _ _ F' H' g.ff R2 qd⟩⟩⟩
/-! ### x op= e; xs[i] = e; xs.append(e) -/
def iaddD : D → D → (D → Prop) → Prop
  | .int i, .int j, Q => Q (.int (i + j))
  | .str i, .str j, Q => i.length + j.length ≤ sizeLine ∧ Q (.str (i ++ j))
  | _, _, _ => False
theorem o_iadd : OpR X (inplaceOp .Add) (LO2 B X.kn iaddD) := opR_by fun v u H Q ⟨F, x, y, Qd, e, dk, r1, r2, q, k⟩ => by
  unfold iaddD at q
  split at q
  · exact ⟨_, iop_add, _, _, r1.int, r2.int, k.here e dk q (.int _)⟩
  · exact ⟨_, iop_add_str, _, _, r1.str, r2.str, q.1, k.here e dk q.2 (.str _)⟩
  · exact q.elim
/-- xs[i] = e, xs of one's own -/
def gSetI (k : Nat) (fe fi : GE) : GS := fun E σ => ∃ xs, σ[k]? = some (.ol xs) ∧ fe σ fun x => fi σ fun d => ∃ i j, d = .int i ∧ ixN xs.length i = some j ∧ E.nx (σ.set k (.ol (xs.set j x)))
theorem sd_setI {k : Nat} {x : Str} {i : Expr} {px pt : Pos} {fe fi : GE} (hv : PE X (.Name x px) (tVar k)) (he : ED B X e fe) (hi : BD B X i fi) (hs : swapsWithSole [.Subscript (.Name x px) i pt] e pos.line X.env = pure false := by rfl) (hw : swappedStores [.Subscript (.Name x px) i pt] e X.env = pure none := by rfl)
    (h1 : (assignEach [.Subscript (.Name x px) i pt] X.env).map (·.2) = [assign (.Subscript (.Name x px) i pt) X.env] := by rfl)
    (ha : ∀ v, assign (.Subscript (.Name x px) i pt) X.env v = (do
      let ov ← holding [v] (eval (.Name x px) X.env)
      let iv ← holding [v, ov] (eval i X.env)
      standAt pt
      holding [v, ov, iv] (setItem ov iv v)
      release [v, ov, iv] []) := by intro _; rfl) : SD B X (.Assign [.Subscript (.Name x px) i pt] e pos) (gSetI k fe fi) :=
  ⟨ps_imp (ps_asg he.run (pg_sub hv hi.run set_list ha) hs hw h1) fun Dn s H ⟨σ, F, E, R, ⟨xs, eo, q⟩, kk⟩ => by
    obtain ⟨a, _, s1, _⟩ := R.ownL eo
    exact ⟨σ, F, _, R, q, fun d qd F1 H1 v g1 d1 r1 => ⟨.ref a, s1, σ, F1, _, R.grow g1 d1, qd, fun d2 ⟨i, j, e2, hj, qn⟩ F2 H2 u g2 dk2 r2 => by
      subst e2
      have R2 := R.grow (g1.trans g2) dk2
      obtain ⟨a', vs, s2, h2, h3, h4, h5, h6⟩ := R2.ownL eo
      rw [s1] at s2
      cases s2
      refine ⟨a, vs, i, j, rfl, r2.int, h2, by rw [h3.length]; exact hj, ?_⟩
      exact kk.nx _ _ F2 _ (g1.ff.trans g2.ff) (R2.write eo (.inl ⟨_, rfl⟩) s1 (x := .ol (xs.set j d)) ⟨rfl, _, upd_same, h3.set (r1.mono g2.ff) j⟩) qn⟩⟩⟩
/-- xs[i] op= e, ints -/
theorem getItem_lst {X : Cx} : PGet X (rIxL X.K) := fun pins s σ H o i ov iv Q I eo ei ⟨a, xs, k, z, ea, ek, stands, found, q⟩ => by
  subst ea ek
  obtain ⟨t, rfl⟩ := ei
  cases eo
  obtain ⟨its, same, plain, _⟩ := I.list stands
  obtain ⟨j, place, item, _, low, high⟩ := atI_get found
  obtain ⟨w, ew, is⟩ := same.get item
  have cnt := same.length
  have top := line63
  have at_j : its.toArray[j]? = some w := by simpa using ew
  rcases Int.lt_or_le k 0 with neg | pos
  · rw [seqIndex_neg neg low] at place
    have e : (k + (its.toArray.size : Int)).toNat = j := by
      rw [List.size_toArray, ← cnt]
      exact Option.some.inj place
    exact wpAny_getItem_list_neg plain.isList neg (by rw [List.size_toArray] <;> omega) (by omega) (e ▸ at_j) ⟨z, H, I, is, q⟩
  · rw [seqIndex_of pos high] at place
    exact wpAny_getItem_list plain.isList pos (by omega) (Option.some.inj place ▸ at_j) ⟨z, H, I, is, q⟩
def gAugI (k : Nat) (gop : D → D → (D → Prop) → Prop) (fi fe : GE) : GS := fun E σ => ∃ xs, σ[k]? = some (.ol xs) ∧ fi σ fun d => ∃ i j x, d = .int i ∧ ixN xs.length i = some j ∧ xs[j]? = some x ∧ fe σ fun y => gop x y fun z => E.nx (σ.set k (.ol (xs.set j z)))
theorem sd_augI {k : Nat} {x : Str} {i : Expr} {op : Operator} {gop : D → D → (D → Prop) → Prop} {px pt : Pos} {fe fi : GE} (hv : PE X (.Name x px) (tVar k)) (hi : BD B X i fi) (he : BD B X e fe) (ho : OpR X (inplaceOp op) (LO2 B X.kn gop))
    (ha : ∀ ov iv new, augStore i ov iv new = (do holding [new, ov, iv] (setItem ov iv new); release [new, ov, iv] []; pure .next) := by intros; rfl) : SD B X (.AugAssign (.Subscript (.Name x px) i pt) op e pos) (gAugI k gop fi fe) :=
  ⟨ps_imp (ps_augS hv hi.run getItem_lst he.run (tip := LO2 B X.kn gop) ho set_list ha) fun Dn s H ⟨σ, F, E, R, ⟨xs, eo, q⟩, kk⟩ => by
    obtain ⟨a, _, s1, _⟩ := R.ownL eo
    refine ⟨.ref a, s1, σ, F, _, R, q, fun d1 ⟨i, j, z, e1, hj, hz, q1⟩ F1 H1 u g1 d1 r1 => ?_⟩
    subst e1
    have R1 := R.grow g1 d1
    obtain ⟨a', vs, s2, h2, h3, h4, h5, h6⟩ := R1.ownL eo
    rw [s1] at s2
    cases s2
    obtain ⟨zv, hzv, rz⟩ := h3.get hz
    have hat : L2.atI vs i = some zv := by
      unfold L2.atI
      rw [h3.length, hj]
      exact hzv
    refine ⟨a, vs, i, zv, rfl, r1.int, SqL.of h2, hat, σ, F1, _, R1, q1, fun y qy F2 H2 w g2 dk2 r2 => ?_⟩
    refine ⟨F2, z, y, _, g2.fh, dk2, .inl (rz.mono g2.ff), r2, qy, fun z' qz F3 H3 w3 g3 dk3 r3 => ?_⟩
    have R3 := R1.grow (g2.trans g3) dk3
    obtain ⟨a', vs3, s3, k2, k3, k4, k5, k6⟩ := R3.ownL eo
    rw [s1] at s3
    cases s3
    refine ⟨a, vs3, i, j, rfl, r1.int, k2, by rw [k3.length]; exact hj, ?_⟩
    exact kk.nx _ _ F3 _ ((g1.ff.trans g2.ff).trans g3.ff) (R3.write eo (.inl ⟨_, rfl⟩) s1 (x := .ol (xs.set j z')) ⟨rfl, _, upd_same, k3.set r3 j⟩) qz⟩
/-- xs.append(e) -/
def gApp (k : Nat) (fe : GE) : GS := fun E σ => ∃ xs, σ[k]? = some (.ol xs) ∧ fe σ fun x => xs.length < sizeLine ∧ E.nx (σ.set k (.ol (xs ++ [x])))
theorem sd_app {k : Nat} {x : Str} {px apos cpos : Pos} {fe : GE} (h : PE X (.Call (.Attribute (.Name x px) "append" apos) [e] [] cpos) (tBM X.K "list" rAppend (tVar k) (tCons (LE B X.kn fe) tNil))) (hs : swapsWith (.Call (.Attribute (.Name x px) "append" apos) [e] [] cpos) none pos.line X.env = pure false := by rfl) :
    SD B X (.Expr (.Call (.Attribute (.Name x px) "append" apos) [e] [] cpos) pos) (gApp k fe) :=
  ⟨ps_imp (ps_expr h hs) fun Dn s H ⟨σ, F, E, R, ⟨xs, eo, q⟩, kk⟩ => by
    obtain ⟨a, _, s1, h1, _⟩ := R.ownL eo
    refine ⟨.ref a, s1, .inl ⟨rfl, _, .inl (.inl h1)⟩, σ, F, _, R, q, fun d ⟨hz, qd⟩ F1 H1 v g1 d1 r1 => ?_⟩
    have R1 := R.grow g1 d1
    obtain ⟨a', vs, s2, h2, h3, h4, h5, h6⟩ := R1.ownL eo
    rw [s1] at s2
    cases s2
    exact ⟨a, vs, v, rfl, rfl, h2, by rw [h3.length]; exact hz, kk.nx _ _ F1 _ g1.ff (R1.write eo (.inl ⟨_, rfl⟩) s1 (x := .ol (xs ++ [d])) ⟨rfl, _, upd_same, h3.append (.cons r1 .nil)⟩) qd⟩⟩

/-! ### while -/
/-! ### for -/
/-- J gives the items ds -/
structure ItOk (B : Bs) (K : Kn) (J : It) (ds : List D) (F : Hp) : Prop where
  go : ∀ (F' H' : Hp) i d, Same F F' → Same F' H' → DeckIn B.W F' H' → ds[i]? = some d → J.go i H' ∧ ∀ x H'', J.yld i H' x H'' → ∃ F'', Grow B.W F' H' F'' H'' ∧ DeckIn B.W F'' H'' ∧ Rep K F'' x d
  stop : ∀ (F' H' : Hp) i, Same F F' → Same F' H' → ds.length ≤ i → J.stop i H'
def LI (B : Bs) (K : Kn) (f : GA) : TI := fun s H R => ∃ σ F Qd, Rel B K σ s F H ∧ f σ Qd ∧ ∀ ds, Qd ds → ∀ F' H' J, Grow B.W F H F' H' → DeckIn B.W F' H' → ItOk B K J ds F' → R J H'
structure PID (B : Bs) (X : Cx) (tg iter : Expr) (f : GA) : Prop where
  run : PI X tg iter (LI B X.kn f)
theorem pi_imp {tg : Expr} {t t' : TI} (h : PI X tg e t) (w : ∀ s H R, t' s H R → t s H R) : PI X tg e t' := ⟨fun pins s σ H R I q => h.run pins s σ H R I (w _ _ _ q)⟩
theorem itOk_list {K : Kn} {a : Addr} {vs : List V} {ds : List D} {F : Hp} (h : F a = some (.lst vs)) (r : Reps K F vs ds) : ItOk B K (Itl K.K a) ds F := by
  refine ⟨fun F' H' i d e1 e2 dk hd => ?_, fun F' H' i e1 e2 hi => ⟨vs, SqL.of (e2 _ _ (e1 _ _ h)), by rw [r.length]; exact hi⟩⟩
  have ha : H' a = some (.lst vs) := e2 _ _ (e1 _ _ h)
  obtain ⟨v, hv, rv⟩ := r.get hd
  refine ⟨⟨vs, v, SqL.of ha, hv⟩, fun x H'' ⟨e, f⟩ => ?_⟩
  subst e
  have := f vs (SqL.of ha)
  rw [hv] at this
  cases this
  exact ⟨F', Grow.refl e2, dk, rv.mono e1⟩
theorem itOk_tup {K : Kn} {a : Addr} {vs : List V} {ds : List D} {F : Hp} (h : SqT K.K F a vs) (r : Reps K F vs ds) : ItOk B K (Itt K.K a) ds F := by
  refine ⟨fun F' H' i d e1 e2 dk hd => ?_, fun F' H' i e1 e2 hi => ⟨vs, same_t e2 (same_t e1 h), by rw [r.length]; exact hi⟩⟩
  have ha : SqT K.K H' a vs := same_t e2 (same_t e1 h)
  obtain ⟨v, hv, rv⟩ := r.get hd
  refine ⟨⟨vs, v, ha, hv⟩, fun x H'' ⟨e, f⟩ => ?_⟩
  subst e
  have := f vs ha
  rw [hv] at this
  cases this
  exact ⟨F', Grow.refl e2, dk, rv.mono e1⟩
def intsFrom (lo : Int) (n : Nat) : List D := (List.range n).map fun (i : Nat) => D.int (lo + (i : Int))
theorem itOk_range {K : Kn} {lo : Int} {n : Nat} {F : Hp} : ItOk B K (Itr lo n) (intsFrom lo n) F := by
  refine ⟨fun F' H' i d e1 e2 dk hd => ?_, fun F' H' i e1 e2 hi => by (show n ≤ i); simpa [intsFrom] using hi⟩
  unfold intsFrom at hd
  rw [List.getElem?_map] at hd
  have hi : i < n := by
    have := (List.getElem?_eq_some_iff.mp (Option.map_eq_some_iff.mp hd).choose_spec.1).1
    simpa using this
  refine ⟨hi, fun x H'' ⟨e, f⟩ => ?_⟩
  subst e f
  rw [List.getElem?_range hi] at hd
  cases hd
  exact ⟨F', Grow.refl e2, dk, .int _⟩
/-- for x in e, e data: a list, a tuple -/
@[simp] def gIter (fa : GE) (σ : List SV) (Q : List D → Prop) : Prop := fa σ fun d => match d with | .tup xs => Q xs | .lst xs => Q xs | _ => False
theorem pid_data {tg : Expr} (ha : ED B X e fa) : PID B X tg e (gIter fa) := ⟨⟨fun pins s σv H R I ⟨σ, F, Qd, Rl, q, k⟩ => by
  refine thn (ha.run.run pins s σv H (fun v H1 => ∃ d F1, Grow B.W F H F1 H1 ∧ DeckIn B.W F1 H1 ∧ Rep X.kn F1 v d ∧ match d with | .tup xs => Qd xs | .lst xs => Qd xs | _ => False) I ⟨σ, F, _, Rl, q, fun d qd F1 H1 v g1 d1 r1 => ⟨d, F1, g1, d1, r1, qd⟩⟩) fun v s1 ⟨x, H1, I1, r1, d, F1, g1, d1, rd, qd⟩ => ?_
  cases rd with
  | tup h r =>
    cases r1
    obtain ⟨its, rv, p, hz⟩ := I1.tuple (same_t g1.fh h)
    refine wpAny_pyIter_tuple (show s1.heap.IsTuple _ its.toArray from p) ?_
    refine ⟨s1.heap.objs.size, [s1.heap.objs.size], _, _, H1, rfl, I1.kept (t' := s1.toks) fun b o e => Heap.get?_push_of_some _ e, turn_tuple _ _, ⟨_, Heap.get?_push_size _ rfl, rfl, rfl⟩, fun b hb => ?_, k _ qd F1 H1 _ g1 d1 (itOk_tup h r)⟩
    have e : b = s1.heap.objs.size := by simpa using hb
    subst e
    exact I1.fpOk (Nat.le_refl _) (I1.hok.fresh (Nat.le_refl _))
  | lst h r =>
    cases r1
    obtain ⟨its, rv, p, hz⟩ := I1.list (SqL.of (g1.fh _ _ h))
    refine wpAny_pyIter_list p.isList ?_
    refine ⟨s1.heap.objs.size, [s1.heap.objs.size], _, _, H1, rfl, I1.kept (t' := s1.toks) fun b o e => Heap.get?_push_of_some _ e, turn_list _ _, ⟨_, Heap.get?_push_size _ rfl, rfl, rfl⟩, fun b hb => ?_, k _ qd F1 H1 _ g1 d1 (itOk_list h r)⟩
    have e : b = s1.heap.objs.size := by simpa using hb
    subst e
    exact I1.fpOk (Nat.le_refl _) (I1.hok.fresh (Nat.le_refl _))
  | _ => exact False.elim qd⟩⟩
/-- range(n), range(a, b) -/
def rng1D (ds : List D) (Q : List D → Prop) : Prop := ∃ j, ds = [.int j] ∧ -(2 ^ 62) ≤ j ∧ j < 2 ^ 62 ∧ Q (intsFrom 0 j.toNat)
@[simp] theorem rng1D_i (j : Int) (Q : List D → Prop) : rng1D [.int j] Q ↔ -(2 ^ 62) ≤ j ∧ j < 2 ^ 62 ∧ Q (intsFrom 0 j.toNat) := ⟨fun ⟨_, e, q⟩ => by cases e; exact q, fun q => ⟨j, rfl, q⟩⟩
def rng2D (ds : List D) (Q : List D → Prop) : Prop := ∃ i j, ds = [.int i, .int j] ∧ (-(2 ^ 62) ≤ i ∧ i < 2 ^ 62 ∧ -(2 ^ 62) ≤ j ∧ j < 2 ^ 62) ∧ Q (intsFrom i (j - i).toNat)
@[simp] theorem rng2D_i (i j : Int) (Q : List D → Prop) : rng2D [.int i, .int j] Q ↔ (-(2 ^ 62) ≤ i ∧ i < 2 ^ 62 ∧ -(2 ^ 62) ≤ j ∧ j < 2 ^ 62) ∧ Q (intsFrom i (j - i).toNat) := ⟨fun ⟨_, _, e, q⟩ => by cases e; exact q, fun q => ⟨i, j, rfl, q⟩⟩
@[simp] def gRng1 (fs : GA) (σ : List SV) (Q : List D → Prop) : Prop := fs σ fun ds => rng1D ds Q
@[simp] def gRng2 (fs : GA) (σ : List SV) (Q : List D → Prop) : Prop := fs σ fun ds => rng2D ds Q
theorem pid_rng1 {tg : Expr} {p : Pos} {fs : GA} (hg : Gl X "range") (hm : X.mg "range" = none) (ha : AD B X [a] fs) (hs : starEach [a] X.env = [(false, eval a X.env)] := by rfl) : PID B X tg (.Call (.Name "range" p) [a] [] pos) (gRng1 fs) :=
  ⟨pi_imp (pi_range1 hg hm ha.run hs) fun s H R ⟨σ, F, Qd, Rl, q, k⟩ => ⟨σ, F, _, Rl, q, fun ds ⟨j, e, h1, h2, qd⟩ F1 H1 vs g1 d1 r1 => by
    subst e
    cases r1 with
    | cons r t =>
      cases r
      cases t
      exact ⟨j, rfl, h1, h2, k _ qd F1 H1 _ g1 d1 itOk_range⟩⟩⟩
theorem pid_rng2 {tg : Expr} {p : Pos} {fs : GA} (hg : Gl X "range") (hm : X.mg "range" = none) (ha : AD B X [a, b] fs) (hs : starEach [a, b] X.env = [(false, eval a X.env), (false, eval b X.env)] := by rfl) (hs2 : starEach [b] X.env = [(false, eval b X.env)] := by rfl) : PID B X tg (.Call (.Name "range" p) [a, b] [] pos) (gRng2 fs) :=
  ⟨pi_imp (pi_range2 hg hm ha.run hs hs2) fun s H R ⟨σ, F, Qd, Rl, q, k⟩ => ⟨σ, F, _, Rl, q, fun ds ⟨i, j, e, h1, qd⟩ F1 H1 vs g1 d1 r1 => by
    subst e
    cases r1 with
    | cons r t =>
      cases r
      cases t with
      | cons r t =>
        cases r
        cases t
        exact ⟨i, j, rfl, h1, k _ qd F1 H1 _ g1 d1 itOk_range⟩⟩⟩
/-- the target of a for: a name, a tuple of names -/
abbrev GG := D → List SV → (List SV → Prop) → Prop
structure GD (B : Bs) (X : Cx) (tg : Expr) (gt : GG) : Prop where
  run : ∃ t, PG X tg t ∧ ∀ d v σ s F H (Qd : List SV → Prop) (Q : L2.St → Hp → Prop), Rel B X.kn σ s F H → Rep X.kn F v d → gt d σ Qd → (∀ σ' s', Rel B X.kn σ' s' F H → Qd σ' → Q s' H) → t v s H Q
@[simp] def ggName (i : Nat) (d : D) (σ : List SV) (Q : List SV → Prop) : Prop := Q (σ.set i (.d d))
@[simp] def ggTup (is : List Nat) (d : D) (σ : List SV) (Q : List SV → Prop) : Prop := unT is.length d fun ds => Q (setAll is ds σ)
theorem gd_name {i : Nat} {x : Str} (h : PG X (.Name x pos) (gName i)) : GD B X (.Name x pos) (ggName i) := ⟨_, h, fun d v σ s F H Qd Q R r q k => k _ _ (R.set r) q⟩
theorem gd_tup {is : List Nat} {ts : List Expr} {kt : Nat} (hc : X.calm = true) (hn : NamesAt X ts is) (hl : (assignEach ts X.env).length = is.length := by rfl) (hst : (assignEach ts X.env).findIdx? (·.1) = none := by rfl) : GD B X (.Tuple ts kt pos) (ggTup is) :=
  ⟨_, pg_tup hc hn.run hl hst, fun d v σ s F H Qd Q R r ⟨ds, e, hl, q⟩ k => by
    subst e
    cases r with
    | tup h r => exact ⟨_, _, rfl, same_t R.ex h, by rw [r.length]; exact hl, by rw [r.length]; exact hl, k _ _ (R.sets r) q⟩⟩
def forG (gt : GG) (g : GS) : List D → Ed → List SV → Prop
  | [], E, σ => E.nx σ
  | d :: ds, E, σ => gt d σ fun σ' => g { E with nx := forG gt g ds E, ct := forG gt g ds E, bk := E.nx } σ'
/-- a loop that does not open by itself -/
@[irreducible] def forL (gt : GG) (g : GS) (ds : List D) (E : Ed) (σ : List SV) : Prop := forG gt g ds E σ
@[simp] theorem forL_eq (gt : GG) (g : GS) (ds : List D) (E : Ed) (σ : List SV) : forL gt g ds E σ = forG gt g ds E σ := by unfold forL; rfl
theorem forL_in {gt : GG} {g : GS} {ds : List D} {E : Ed} {σ : List SV} (h : forG gt g ds E σ) : forL gt g ds E σ := by rw [forL_eq]; exact h
@[simp] def gFor (fi : GA) (gt : GG) (g : GS) (E : Ed) (σ : List SV) : Prop := fi σ fun ds => forL gt g ds E σ
theorem sd_for {tg iter : Expr} {fi : GA} {gt : GG} (hp : PassesOwn (model X.prog X.w) X.A X.env X.xe) (hc : X.calm = true) (hi : PID B X tg iter fi) (hg : GD B X tg gt) (hb : SDs B X sts g) (hs : ∀ x, foldedSetIterable iter X.env x = pure x := by intro _; rfl) : SD B X (.For tg iter sts [] pos) (gFor fi gt g) := by
  obtain ⟨t, ht, hgt⟩ := hg.run
  refine ⟨ps_imp (ps_for hp hc hi.run ht hb.run hs) fun Dn s H ⟨σ, F, E, R, q, kk⟩ => ⟨σ, F, _, R, q, fun ds qd F1 H1 J g1 d1 ok => ?_⟩⟩
  have R1 := R.grow g1 d1
  rw [forL_eq] at qd
  refine ⟨fun i m s' H' => m = ds.length - i ∧ ∃ σ' F', Same F1 F' ∧ Rel B X.kn σ' s' F' H' ∧ forG gt g (ds.drop i) E σ', ⟨ds.length, rfl, σ, F1, Same.refl F1, R1, by simpa using qd⟩, ?_⟩
  rintro i m s' H' ⟨rfl, σ', F', e', R', q'⟩
  by_cases hlt : i < ds.length
  · obtain ⟨hgo, hy⟩ := ok.go F' H' i ds[i] e' R'.ex R'.deck (by simp [hlt])
    rw [List.drop_eq_getElem_cons hlt] at q'
    refine .inr ⟨hgo, fun s3 H3 => ∃ σ3 F3, Same F1 F3 ∧ Rel B X.kn σ3 s3 F3 H3 ∧ forG gt g (ds.drop (i + 1)) E σ3, fun s3 H3 z => ⟨ds.length - (i + 1), by omega, rfl, z⟩, fun x H2 hx => ?_⟩
    obtain ⟨F2, g2, d2, r2⟩ := hy x H2 hx
    have R2 := R'.grow g2 d2
    refine hgt ds[i] x σ' s' F2 H2 _ _ R2 r2 q' fun σ3 s3 R3 q3 => ⟨σ3, F2, _, R3, q3, ?_⟩
    have eF := e'.trans g2.ff
    exact ⟨fun σ4 s4 F4 H4 a r q4 => ⟨σ4, F4, eF.trans a, r, q4⟩, kk.rt, fun σ4 s4 F4 H4 a r q4 => kk.nx σ4 s4 F4 H4 (g1.ff.trans (eF.trans a)) r q4, fun σ4 s4 F4 H4 a r q4 => ⟨σ4, F4, eF.trans a, r, q4⟩⟩
  · rw [List.drop_eq_nil_of_le (by omega)] at q'
    exact .inl ⟨ok.stop F' H' i e' R'.ex (by omega), kk.nx σ' s' F' H' (g1.ff.trans e') R' q'⟩
end
end ND

/-! ND6: comprehensions, built-in functions -/
namespace ND
open PySem PySem.Spec L2
open PyProof.Rows (envOfC)

/-! ### lists by comprehension -/
@[simp] def wipeD (σ : List SV) : List Nat → List SV
  | [] => σ
  | v :: vs => (wipeD σ vs).set v .no
theorem Rel.wipe {B : Bs} {K : Kn} {σ : List SV} {s : L2.St} {F H : Hp} (R : Rel B K σ s F H) : ∀ vs : List Nat, Rel B K (wipeD σ vs) (L2.wipe s vs) F H
  | [] => R
  | v :: vs => (Rel.wipe R vs).drop
theorem set_set_ne {α : Type} {l : List α} {i j : Nat} {a b : α} (h : i ≠ j) : (l.set i a).set j b = (l.set j b).set i a := List.set_comm a b h
theorem wipe_set {s : L2.St} {i : Nat} {v : Option V} : ∀ {vs : List Nat}, i ∈ vs → L2.wipe (s.set i v) vs = L2.wipe s vs
  | w :: vs, h => by
    unfold L2.wipe
    by_cases e : i ∈ vs
    · rw [wipe_set e]
    · have e2 : i = w := by
        rcases List.mem_cons.mp h with h | h
        · exact h
        · exact absurd h e
      subst e2
      have key : ∀ (us : List Nat), i ∉ us → L2.wipe (s.set i v) us = (L2.wipe s us).set i v := by
        intro us
        induction us with
        | nil => intro _; rfl
        | cons u us ih =>
          intro hu
          unfold L2.wipe
          rw [ih (fun z => hu (List.mem_cons_of_mem _ z)), set_set_ne (fun z => hu (by rw [z]; exact List.mem_cons_self))]
      rw [key vs e, List.set_set]
theorem wipe_idem (s : L2.St) : ∀ vs : List Nat, L2.wipe (L2.wipe s vs) vs = L2.wipe s vs := by
  have key : ∀ (ws vs : List Nat), (∀ i ∈ ws, i ∈ vs) → L2.wipe (L2.wipe s ws) vs = L2.wipe s vs := by
    intro ws
    induction ws with
    | nil => intro vs _; rfl
    | cons w ws ih =>
      intro vs h
      show L2.wipe ((L2.wipe s ws).set w none) vs = _
      rw [wipe_set (h w List.mem_cons_self)]
      exact ih vs fun i hi => h i (List.mem_cons_of_mem _ hi)
  exact fun vs => key vs vs fun _ h => h
theorem wipe_sets {own : List Nat} : ∀ {is : List Nat} {vs : List V} {s : L2.St}, (∀ i ∈ is, i ∈ own) → L2.wipe (setAllV is vs s) own = L2.wipe s own
  | [], _, _, _ => rfl
  | _ :: _, [], _, _ => rfl
  | i :: is, v :: vs, s, h => by
    show L2.wipe (setAllV is vs (s.set i (some v))) own = _
    rw [wipe_sets fun j hj => h j (List.mem_cons_of_mem _ hj), wipe_set (h i List.mem_cons_self)]
/-- a comprehension's target -/
structure CTg (B : Bs) (K : Kn) (own : List Nat) (t : TG) (gt : GG) : Prop where
  run : ∀ d v σ s F H (Qd : List SV → Prop) (Q : L2.St → Hp → Prop), Rel B K σ s F H → Rep K F v d → gt d σ Qd → (∀ σ' s', Rel B K σ' s' F H → L2.wipe s' own = L2.wipe s own → Qd σ' → Q s' H) → t v s H Q
section
variable {B : Bs} {X : Cx} {K : Kn} {own : List Nat}
theorem ct_name {i : Nat} (h : i ∈ own) : CTg B K own (gName i) (ggName i) := ⟨fun d v σ s F H Qd Q R r q k => k _ _ (R.set r) (wipe_set h) q⟩
abbrev tgNames (K : PySem.W.Frag) (is : List Nat) : TG := L2.gTup K is.length fun vs σ H Q => vs.length = is.length ∧ Q (setAllV is vs σ) H
theorem ct_tup {is : List Nat} (h : ∀ i ∈ is, i ∈ own) : CTg B K own (tgNames K.K is) (ggTup is) := ⟨fun d v σ s F H Qd Q R r ⟨ds, e, hl, q⟩ k => by
  subst e
  cases r with
  | tup h' r => exact ⟨_, _, rfl, same_t R.ex h', by rw [r.length]; exact hl, by rw [r.length]; exact hl, k _ _ (R.sets r) (wipe_sets h) q⟩⟩
theorem pg_names {is : List Nat} {ts : List Expr} {kt : Nat} {pos : Pos} (hc : X.calm = true) (hn : NamesAt X ts is) (hl : (assignEach ts X.env).length = is.length := by rfl) (hst : (assignEach ts X.env).findIdx? (·.1) = none := by rfl) : PG X (.Tuple ts kt pos) (tgNames X.K is) := pg_tup hc hn.run hl hst
structure TDs (B : Bs) (X : Cx) (ifs : List Expr) (f : GT) : Prop where
  run : PTs X ifs (LT B X.kn f)
@[simp] def gYes (_ : List SV) (Q : Bool → Prop) : Prop := Q true
theorem tds_nil : TDs B X [] gYes := ⟨⟨fun pins s σ H Q I ⟨σ', F, Qd, R, q, k⟩ => pts_nil.run pins s σ H Q I (k _ q F H (Grow.refl R.ex) R.deck)⟩⟩
theorem tds_one {c : Expr} {ft : GT} (h : TD B X c ft) : TDs B X [c] ft := ⟨pts_one h.run⟩
def lcG (gt : GG) (ft : GT) (fe : GE) (own : List Nat) (σ : List SV) (Q : List D → Prop) : List D → List D → Prop
  | [], acc => Q acc
  | d :: ds, acc => gt d (wipeD σ own) fun σ2 => ft σ2 fun b => if b = true then fe σ2 fun y => acc.length < sizeLine ∧ lcG gt ft fe own σ Q ds (acc ++ [y]) else lcG gt ft fe own σ Q ds acc
@[simp] def gLc (fi : GA) (gt : GG) (ft : GT) (fe : GE) (own : List Nat) (σ : List SV) (Q : List D → Prop) : Prop := fi σ fun ds => lcG gt ft fe own σ Q ds []
theorem Grow.write {W : WT} {F H F' H' : Hp} {p : Addr} {o : HO} (g : Grow W F H F' H') (hp : H p = none) (fp : F' p = none) : Grow W F H F' (upd H' p o) :=
  ⟨g.ff, fun a u e => by
    rw [upd_ne fun z => by rw [z, fp] at e; cases e]
    exact g.fh a u e, fun a u e w nt => by
    rw [upd_ne fun z => by rw [z, hp] at e; cases e]
    exact g.hh a u e w nt, g.new, fun a e => upd_keep (g.keep a e)⟩
theorem DeckIn.write {W : WT} {F H F' H' : Hp} {p : Addr} {o : HO} (d0 : DeckIn W F H) (d : DeckIn W F' H') (hp : H p = none) (nx : ∀ φ, H' p ≠ some (.ext φ)) (nt : NT o := by intro _ z; cases z) : DeckIn W F' (upd H' p o) :=
  d.keep (fun _ _ => rfl) (fun a w => upd_ne fun z => (d0.w w).2 (by rw [z]; exact hp)) (fun a φ e => by rw [upd_ne (fun z => nx φ (by rw [← z]; exact e))]; exact e) d.nf (ot_upd nt)
theorem lc_run {fi : GA} {gt : GG} {ft : GT} {fe : GE} {t : TG} {own : List Nat} {s : L2.St} {H : Hp} {Q : VK} (ct : CTg B K own t gt) (h : LF B K (gLc fi gt ft fe own) s H Q) : tLc (LI B K fi) t (LT B K ft) (LE B K fe) own s H Q := by
  obtain ⟨σ, F, Qd, R, q, k⟩ := h
  refine ⟨σ, F, _, R, q, fun ds qds F1 H1 J g1 d1 okJ L hL => ?_⟩
  refine ⟨fun i m H' => m = ds.length - i ∧ ∃ F' acc vs, Grow B.W F1 H1 F' H' ∧ DeckIn B.W F' H' ∧ F' L = none ∧ H' L = some (.lst vs) ∧ Reps K F' vs acc ∧ lcG gt ft fe own σ Qd (ds.drop i) acc, ⟨ds.length, rfl, F1, [], [], Grow.laid g1.fh hL, d1.laid hL, g1.fh.free hL, upd_same, .nil, by simpa using qds⟩, ?_⟩
  rintro i m H' ⟨rfl, F', acc, vs, g', dk', fL, hv, rv, q'⟩
  by_cases hlt : i < ds.length
  · obtain ⟨hgo, hy⟩ := okJ.go F' H' i ds[i] g'.ff g'.fh dk' (by simp [hlt])
    rw [List.drop_eq_getElem_cons hlt] at q'
    refine .inr ⟨hgo, fun H3 => ∃ F3 acc3 vs3, Grow B.W F1 H1 F3 H3 ∧ DeckIn B.W F3 H3 ∧ F3 L = none ∧ H3 L = some (.lst vs3) ∧ Reps K F3 vs3 acc3 ∧ lcG gt ft fe own σ Qd (ds.drop (i + 1)) acc3, fun H3 z => ⟨ds.length - (i + 1), by omega, rfl, z⟩, fun x H2 hx => ?_⟩
    obtain ⟨F2, g2, d2, r2⟩ := hy x H2 hx
    have R2 := ((R.grow g1 d1).grow (g'.trans g2) d2).wipe own
    have nW : ¬ InW B.W L := fun w => (d1.w w).2 hL
    have key : ∀ {F3 H3 : Hp}, Grow B.W F' H' F3 H3 → F3 L = none ∧ H3 L = some (.lst vs) := fun {F3 H3} g3 => ⟨g3.new L fL (by rw [hv]; exact Option.some_ne_none _), g3.hh L _ hv nW (by intro _ z; cases z)⟩
    refine ct.run ds[i] x _ _ F2 H2 _ _ R2 r2 q' fun σ3 s3 R3 hw q3 => ⟨by rw [hw]; exact wipe_idem _ _, σ3, F2, _, R3, q3, fun b qb F3 H3 g3 d3 => ?_⟩
    cases b with
    | false =>
      have g23 := g2.trans g3
      exact ⟨F3, acc, vs, g'.trans g23, d3, (key g23).1, (key g23).2, rv.mono g23.ff, by simpa using qb⟩
    | true =>
      refine ⟨σ3, F3, _, R3.grow g3 d3, qb, fun y ⟨hz, qy⟩ F4 H4 v g4 d4 r4 => ?_⟩
      have g24 := (g2.trans g3).trans g4
      have rv4 := rv.mono g24.ff
      exact ⟨vs, (key g24).2, by rw [rv.length]; exact hz, F4, acc ++ [y], vs ++ [v], (g'.trans g24).write hL (key g24).1, d1.write d4 hL (fun φ z => by rw [(key g24).2] at z; cases z), (key g24).1, upd_same, rv4.append (.cons r4 .nil), qy⟩
  · rw [List.drop_eq_nil_of_le (by omega)] at q'
    exact .inl ⟨okJ.stop F' H' i g'.ff g'.fh (by omega), k acc q' F' H' L vs (g1.trans g') dk' (g1.back hL) fL hv rv⟩
theorem fd_lc {elt tg iter : Expr} {ifs : List Expr} {scope : Scope} {own : List (Str × Nat)} {pos : Pos} {fi : GA} {gt : GG} {ft : GT} {fe : GE} {t : TG} (hc : X.calm = true) (hN : X.N.Nodup) (hi : PID B X tg iter fi) (ok : BlkOk X.N X.env.scope scope own)
    (ct : CTg B X.kn (own.map (·.2)) t gt) (hg : ∀ (s : Shared) (H : Hp) (C : Addr) (cl : List (Str × Addr)) (fp : List Addr), PG (X.blk s H scope (compEnvC scope cl C X.env) fp) tg t)
    (ht : ∀ (s : Shared) (H : Hp) (C : Addr) (cl : List (Str × Addr)) (fp : List Addr), TDs B (X.blk s H scope (compEnvC scope cl C X.env) fp) ifs ft)
    (he : ∀ (s : Shared) (H : Hp) (C : Addr) (cl : List (Str × Addr)) (fp : List Addr), ED B (X.blk s H scope (compEnvC scope cl C X.env) fp) elt fe) (hs : ∀ x, foldedSetIterable iter X.env x = pure x := by intro _; rfl) :
    FD B X (.ListComp elt [⟨tg, iter, ifs, 0⟩] scope pos) (gLc fi gt ft fe (own.map (·.2))) :=
  ⟨pe_imp (pe_lc (te := LE B X.kn fe) (tt := LT B X.kn ft) hc hN hi.run ok hg (fun s H C cl fp => (ht s H C cl fp).run) (fun s H C cl fp => (he s H C cl fp).run) hs) fun s H Q h => lc_run ct h⟩
/-- y = [..], a list of one's own, or data -/
theorem sd_setLcO {i : Nat} {y : Str} {py : Pos} {elt tg iter : Expr} {ifs : List Expr} {scope : Scope} {own : List (Str × Nat)} {pos spos : Pos} {fi : GA} {gt : GG} {ft : GT} {fe : GE} {t : TG} (hc : X.calm = true) (hN : X.N.Nodup) (hy : X.N[i]? = some y) (hyl : X.env.scope.names.lookup y = some .local)
    (hsw : swapsWith (.ListComp elt [⟨tg, iter, ifs, 0⟩] scope pos) (some (.Name y py)) spos.line X.env = pure true) (hi : PID B X tg iter fi) (ok : BlkOk X.N X.env.scope scope own)
    (ct : CTg B X.kn (own.map (·.2)) t gt) (hg : ∀ (s : Shared) (H : Hp) (C : Addr) (cl : List (Str × Addr)) (fp : List Addr), PG (X.blk s H scope (compEnvC scope cl C X.env) fp) tg t)
    (ht : ∀ (s : Shared) (H : Hp) (C : Addr) (cl : List (Str × Addr)) (fp : List Addr), TDs B (X.blk s H scope (compEnvC scope cl C X.env) fp) ifs ft)
    (he : ∀ (s : Shared) (H : Hp) (C : Addr) (cl : List (Str × Addr)) (fp : List Addr), ED B (X.blk s H scope (compEnvC scope cl C X.env) fp) elt fe) (hs : ∀ x, foldedSetIterable iter X.env x = pure x := by intro _; rfl) :
    SD B X (.Assign [.Name y py] (.ListComp elt [⟨tg, iter, ifs, 0⟩] scope pos) spos) (gSetL i (gLc fi gt ft fe (own.map (·.2)))) :=
  ⟨ps_imp (ps_setLc (te := LE B X.kn fe) (tt := LT B X.kn ft) hc hN hy hyl hsw hi.run ok hg (fun s H C cl fp => (ht s H C cl fp).run) (fun s H C cl fp => (he s H C cl fp).run) hs) fun Dn s H ⟨σ, F, E, R, q, k⟩ =>
    lc_run ct ⟨σ, F, _, R, q, fun ds qd F' H' p vs g dk hp fp ep r => k.nx _ _ F' H' g.ff (R.setNew (x := .ol ds) g dk hp fp ⟨rfl, vs, ep, r⟩) qd⟩⟩
theorem sd_setLc {i : Nat} {y : Str} {py : Pos} {elt tg iter : Expr} {ifs : List Expr} {scope : Scope} {own : List (Str × Nat)} {pos spos : Pos} {fi : GA} {gt : GG} {ft : GT} {fe : GE} {t : TG} (hc : X.calm = true) (hN : X.N.Nodup) (hy : X.N[i]? = some y) (hyl : X.env.scope.names.lookup y = some .local)
    (hsw : swapsWith (.ListComp elt [⟨tg, iter, ifs, 0⟩] scope pos) (some (.Name y py)) spos.line X.env = pure true) (hi : PID B X tg iter fi) (ok : BlkOk X.N X.env.scope scope own)
    (ct : CTg B X.kn (own.map (·.2)) t gt) (hg : ∀ (s : Shared) (H : Hp) (C : Addr) (cl : List (Str × Addr)) (fp : List Addr), PG (X.blk s H scope (compEnvC scope cl C X.env) fp) tg t)
    (ht : ∀ (s : Shared) (H : Hp) (C : Addr) (cl : List (Str × Addr)) (fp : List Addr), TDs B (X.blk s H scope (compEnvC scope cl C X.env) fp) ifs ft)
    (he : ∀ (s : Shared) (H : Hp) (C : Addr) (cl : List (Str × Addr)) (fp : List Addr), ED B (X.blk s H scope (compEnvC scope cl C X.env) fp) elt fe) (hs : ∀ x, foldedSetIterable iter X.env x = pure x := by intro _; rfl) :
    SD B X (.Assign [.Name y py] (.ListComp elt [⟨tg, iter, ifs, 0⟩] scope pos) spos) (gSet i (gFrz (gLc fi gt ft fe (own.map (·.2))))) :=
  ⟨ps_imp (ps_setLc (te := LE B X.kn fe) (tt := LT B X.kn ft) hc hN hy hyl hsw hi.run ok hg (fun s H C cl fp => (ht s H C cl fp).run) (fun s H C cl fp => (he s H C cl fp).run) hs) fun Dn s H ⟨σ, F, E, R, q, k⟩ =>
    lc_run ct ⟨σ, F, _, R, q, fun ds qd F' H' p vs g dk hp fp ep r =>
      k.nx _ _ (upd F' p (.lst vs)) H' (g.freeze hp fp ep).ff ((R.grow (g.freeze hp fp ep) (R.deck.freeze dk hp)).set (.lst upd_same (r.mono (same_new fp)))) qd⟩⟩
end
end ND

/-! ND7: built-in functions by data -/
namespace ND
open PySem PySem.Spec L2
open PyProof.Rows (envOfC)

/-- a built-in function of data -/
def LCa (B : Bs) (K : Kn) (g : List D → (D → Prop) → Prop) : List V → Hp → VK → Prop := fun vs H Q => ∃ F ds Qd, Same F H ∧ DeckIn B.W F H ∧ RepBs B.W K F H vs ds ∧ g ds Qd ∧ Fin B K F H Qd Q
@[simp] def gBlt (g : List D → (D → Prop) → Prop) (fs : GA) (σ : List SV) (Q : D → Prop) : Prop := fs σ fun ds => g ds Q
section
variable {B : Bs} {X : Cx} {e : Expr} {es : List Expr} {x : Str} {p pos : Pos} {fs : GA} {id T : String} {g : List D → (D → Prop) → Prop}
theorem callR_by {f : Value} {r' : List V → Hp → VK → Prop} (w : ∀ vs H Q, r' vs H Q → ∃ r, CallR X f r ∧ r vs H Q) : CallR X f r' := fun pins s σ H xs us Q I rx q => by
  obtain ⟨r, h, q'⟩ := w _ _ _ q
  exact h pins s σ H xs us Q I rx q'
theorem tcb_of {s : L2.St} {H : Hp} {Q : VK} (h : LE B X.kn (gBlt g fs) s H Q) : tCB (LCa B X.kn g) (LAB B X.kn fs) s H Q := by
  obtain ⟨σ, F, Qd, R, q, k⟩ := h
  exact ⟨σ, F, _, R, q, fun ds qd F1 H1 vs g1 d1 r1 => ⟨F1, ds, Qd, g1.fh, d1, r1, qd, k.more g1⟩⟩
theorem ed_callB (hc : CallR X (.builtin id) (LCa B X.kn g)) (hg : Gl X x) (hm : X.mg x = none) (hv : bootBuiltins x = some (.builtin id)) (ha : ABD B X (e :: es) fs) (hn : x ≠ "__name__" := by decide) (hdb : (x == ("__debug__" : Str)) = false := by decide)
    (he : starEach (e :: es) X.env = (false, eval e X.env) :: starEach es X.env := by rfl) (hpl : (backTo pos (starEach es X.env)).any (·.1) = false := by rfl) : ED B X (.Call (.Name x p) (e :: es) [] pos) (gBlt g fs) :=
  ⟨pe_imp (pe_callB hc hg hm hv ha.run hn hdb he hpl) fun s H Q h => tcb_of h⟩
theorem ed_callTy (hc : CallR X (.type T) (LCa B X.kn g)) (hg : Gl X x) (hm : X.mg x = none) (hv : bootBuiltins x = some (.type T)) (ha : ABD B X (e :: es) fs) (hn : x ≠ "__name__" := by decide) (hdb : (x == ("__debug__" : Str)) = false := by decide)
    (he : starEach (e :: es) X.env = (false, eval e X.env) :: starEach es X.env := by rfl) (hpl : (backTo pos (starEach es X.env)).any (·.1) = false := by rfl) : ED B X (.Call (.Name x p) (e :: es) [] pos) (gBlt g fs) :=
  ⟨pe_imp (pe_callTy hc hg hm hv ha.run hn hdb he hpl) fun s H Q h => tcb_of h⟩
/-- a module's name for a built-in function -/
theorem ed_callFun (hc : CallR X (.builtin id) (LCa B X.kn g)) (hg : Gl X x) (hm : X.mg x = some (.builtin id)) (ha : ABD B X (e :: es) fs) (hdb : (x == ("__debug__" : Str)) = false := by decide)
    (he : starEach (e :: es) X.env = (false, eval e X.env) :: starEach es X.env := by rfl) (hpl : (backTo pos (starEach es X.env)).any (·.1) = false := by rfl) : ED B X (.Call (.Name x p) (e :: es) [] pos) (gBlt g fs) :=
  ⟨pe_imp (pe_callBfun hc hg hm ha.run hdb he hpl) fun s H Q h => tcb_of h⟩
/-- a name of a built-in type -/
theorem ed_ty (hg : Gl X x) (hm : X.mg x = none) (hv : bootBuiltins x = some (.type T)) (hn : x ≠ "__name__" := by decide) (hdb : (x == ("__debug__" : Str)) = false := by decide) : ED B X (.Name x pos) (gC (.opq (.ty T))) :=
  ed_c (v := .ty T) (pe_bltn hg hm hv rfl hn hdb) fun _ => .opq _

theorem rb1 {W : WT} {K : Kn} {F H : Hp} {vs : List V} {d : D} (h : RepBs W K F H vs [d]) : ∃ v, vs = [v] ∧ RepB W K F H v d := by
  cases h with
  | cons h t =>
    cases t
    exact ⟨_, rfl, h⟩
theorem rb2 {W : WT} {K : Kn} {F H : Hp} {vs : List V} {d d' : D} (h : RepBs W K F H vs [d, d']) : ∃ v u, vs = [v, u] ∧ RepB W K F H v d ∧ RepB W K F H u d' := by
  cases h with
  | cons h t =>
    obtain ⟨u, rfl, h2⟩ := rb1 t
    exact ⟨_, _, rfl, h, h2⟩
/-! the answers -/
def lenD : List D → (D → Prop) → Prop
  | [.lst xs], Q => Q (.int xs.length)
  | [.tup xs], Q => Q (.int xs.length)
  | [.str x], Q => x.length ≤ sizeLine ∧ Q (.int x.length)
  | [.dic ks], Q => Q (.int ks.length)
  | _, _ => False
theorem repKs_len {K : Kn} {F : Hp} : ∀ {v : List (Key × V)} {d : List (Key × D)}, RepKs K F v d → v.length = d.length
  | _, _, .nil => rfl
  | _, _, .cons _ t => by rw [List.length_cons, List.length_cons, repKs_len t]
theorem c_len : CallR X (.builtin "len") (LCa B X.kn lenD) := callR_by fun vs H Q ⟨F, ds, Qd, e, dk, r, q, k⟩ => by
  unfold lenD at q
  split at q
  · obtain ⟨v, rfl, r1⟩ := rb1 r
    obtain ⟨a, us, rfl, h1, h2⟩ := r1.lst e
    exact ⟨_, call_len_seq, a, us, rfl, .inl (SqL.of h1), by rw [h2.length]; exact k.here e dk q (.int _)⟩
  · obtain ⟨v, rfl, r1⟩ := rb1 r
    obtain ⟨a, us, rfl, _, h1, h2⟩ := r1.tup e
    exact ⟨_, call_len_seq, a, us, rfl, .inr h1, by rw [h2.length]; exact k.here e dk q (.int _)⟩
  · obtain ⟨v, rfl, r1⟩ := rb1 r
    exact ⟨_, call_len_str, _, by rw [r1.str], q.1, k.here e dk q.2 (.int _)⟩
  · obtain ⟨v, rfl, r1⟩ := rb1 r
    obtain ⟨a, us, rfl, h1, h2⟩ := r1.dic e
    exact ⟨_, call_lenD, a, us, rfl, h1, by rw [repKs_len h2]; exact k.here e dk q (.int _)⟩
  · exact q.elim
def intD : List D → (D → Prop) → Prop
  | [.int i], Q => Q (.int i)
  | [.bl b], Q => Q (.int (if b = true then 1 else 0))
  | [.str x], Q => ∃ n, intText? x = some n ∧ x.length ≤ 640 ∧ Q (.int n)
  | _, _ => False
theorem c_int : CallR X (.type "int") (LCa B X.kn intD) := callR_by fun vs H Q ⟨F, ds, Qd, e, dk, r, q, k⟩ => by
  unfold intD at q
  split at q
  · obtain ⟨v, rfl, r1⟩ := rb1 r
    exact ⟨_, call_int1, .inl ⟨_, by rw [r1.int], k.here e dk q (.int _)⟩⟩
  · obtain ⟨v, rfl, r1⟩ := rb1 r
    exact ⟨_, call_int1, .inr ⟨_, by rw [r1.bl], k.here e dk q (.int _)⟩⟩
  · obtain ⟨v, rfl, r1⟩ := rb1 r
    obtain ⟨n, h1, h2, h3⟩ := q
    exact ⟨_, call_int_str, _, n, by rw [r1.str], h1, h2, k.here e dk h3 (.int _)⟩
  · exact q.elim
def absD : List D → (D → Prop) → Prop
  | [.int i], Q => Q (.int (if i < 0 then -i else i))
  | _, _ => False
theorem c_abs : CallR X (.builtin "abs") (LCa B X.kn absD) := callR_by fun vs H Q ⟨F, ds, Qd, e, dk, r, q, k⟩ => by
  unfold absD at q
  split at q
  · obtain ⟨v, rfl, r1⟩ := rb1 r
    exact ⟨_, call_abs, _, by rw [r1.int], k.here e dk q (.int _)⟩
  · exact q.elim
def max2D : List D → (D → Prop) → Prop
  | [.int i, .int j], Q => Q (.int (if j > i then j else i))
  | _, _ => False
theorem c_max2 (hc : X.calm = true) : CallR X (.builtin "max") (LCa B X.kn max2D) := callR_by fun vs H Q ⟨F, ds, Qd, e, dk, r, q, k⟩ => by
  unfold max2D at q
  split at q
  · obtain ⟨v, u, rfl, r1, r2⟩ := rb2 r
    exact ⟨_, call_max2 hc, _, _, by rw [r1.int, r2.int], k.here e dk q (.int _)⟩
  · exact q.elim
def min2D : List D → (D → Prop) → Prop
  | [.int i, .int j], Q => Q (.int (if j < i then j else i))
  | _, _ => False
theorem c_min2 (hc : X.calm = true) : CallR X (.builtin "min") (LCa B X.kn min2D) := callR_by fun vs H Q ⟨F, ds, Qd, e, dk, r, q, k⟩ => by
  unfold min2D at q
  split at q
  · obtain ⟨v, u, rfl, r1, r2⟩ := rb2 r
    exact ⟨_, call_min2 hc, _, _, by rw [r1.int, r2.int], k.here e dk q (.int _)⟩
  · exact q.elim
def gcdD : List D → (D → Prop) → Prop
  | [.int i, .int j], Q => Q (.int ((Nat.gcd i.natAbs j.natAbs : Nat) : Int))
  | _, _ => False
theorem c_gcd : CallR X (.builtin "math.gcd") (LCa B X.kn gcdD) := callR_by fun vs H Q ⟨F, ds, Qd, e, dk, r, q, k⟩ => by
  unfold gcdD at q
  split at q
  · obtain ⟨v, u, rfl, r1, r2⟩ := rb2 r
    exact ⟨_, cr_gcd, _, _, by rw [r1.int, r2.int], k.here e dk q (.int _)⟩
  · exact q.elim
/-! isinstance with a built-in type -/
def tyD : D → Option String
  | .non => some "NoneType" | .bl _ => some "bool" | .int _ => some "int" | .str _ => some "str" | .tup _ => some "tuple" | .lst _ => some "list" | .dic _ => some "dict" | _ => none
def isTb (t T : String) : Bool := t == T || (t == "bool" && T == "int")
def knownT (T : String) : Bool := T == "int" || T == "bool" || T == "str" || T == "tuple" || T == "list" || T == "dict"
def isiB (T : String) (x : D) : Bool := match tyD x with | some t => isTb t T | none => false
def isiD : List D → (D → Prop) → Prop
  | [x, .opq (.ty T)], Q => knownT T = true ∧ (tyD x).isSome = true ∧ Q (.bl (isiB T x))
  | _, _ => False
theorem kitB_all : ∀ t ∈ ["NoneType", "bool", "int", "str", "tuple", "list", "dict"], ∀ T ∈ ["int", "bool", "str", "tuple", "list", "dict"], kitB t T = some (isTb t T) := by decide +kernel
theorem tyD_mem {x : D} {t : String} (h : tyD x = some t) : t ∈ ["NoneType", "bool", "int", "str", "tuple", "list", "dict"] := by
  cases x <;> simp only [tyD, Option.some.injEq, reduceCtorEq] at h <;> subst h <;> simp
theorem RepB.tyx {W : WT} {K : Kn} {F H : Hp} {v : V} {x : D} {t : String} (h : RepB W K F H v x) (e : Same F H) (ht : tyD x = some t) : TyX K.K H v (.type t) := by
  cases x <;> simp only [tyD, Option.some.injEq, reduceCtorEq] at ht <;> subst ht
  · rw [h.non]; exact .base .non
  · rw [h.bl]; exact .base (.bl _)
  · rw [h.int]; exact .base (.int _)
  · rw [h.str]; exact .base (.str _)
  · obtain ⟨a, us, rfl, _, h1, h2⟩ := h.tup e
    rcases h1 with (h1 | ⟨o, h1⟩) | ⟨o, its, n, h1, h2, _⟩
    · exact .base (.tup h1)
    · exact .fTuple h1
    · exact .kTuple h1 h2
  · obtain ⟨a, us, rfl, h1, h2⟩ := h.lst e
    exact .base (.lst h1)
  · obtain ⟨a, us, rfl, h1, h2⟩ := h.dic e
    exact .base (.dK h1)
theorem c_isi : CallR X (.builtin "isinstance") (LCa B X.kn isiD) := callR_by fun vs H Q ⟨F, ds, Qd, e, dk, r, q, k⟩ => by
  unfold isiD at q
  split at q
  · rename_i x T
    obtain ⟨v, u, rfl, r1, r2⟩ := rb2 r
    obtain ⟨h1, h2, h3⟩ := q
    obtain ⟨t, ht⟩ := Option.isSome_iff_exists.mp h2
    have hu := r2.opq
    subst hu
    refine ⟨_, call_isi, v, .ty T, .type t, .type T, isTb t T, rfl, .ty T, r1.tyx e ht, kit_ty (kitB_all t (tyD_mem ht) T ?_), k.here e dk ?_ (.bl _)⟩
    · simp only [knownT, Bool.or_eq_true, beq_iff_eq] at h1
      rcases h1 with ((((h | h) | h) | h) | h) | h <;> subst h <;> simp
    · have : isiB T x = isTb t T := by unfold isiB; rw [ht]
      rw [← this]
      exact h3
  · exact q.elim

/-! repr of plain data -/
/-! text * int -/
end
end ND

/-! ND8: defs by data -/
namespace ND
open PySem PySem.Spec L2
open PyProof.Rows (envOfC)

def startD (n : Nat) (ds : List D) : List SV := ds.map SV.d ++ List.replicate (n - ds.length) .no
theorem rel_start {W : WT} {K : Kn} {F H : Hp} {N : List Str} {vs : List V} {ds : List D} (e : Same F H) (dk : DeckIn W F H) (r : Reps K F vs ds) : Rel ⟨W, F, H⟩ K (startD N.length ds) (L2.start N vs) F H := by
  refine ⟨Grow.refl e, dk, dk, ?_, fun _ => none, ⟨fun i j a z => (nomatch z), fun i a z => (nomatch z)⟩, fun i x v e1 e2 => ?_⟩
  · unfold startD L2.start
    simp [r.length]
  · unfold startD at e1
    unfold L2.start at e2
    by_cases hi : i < ds.length
    · rw [List.getElem?_append_left (by simpa using hi)] at e1
      rw [List.getElem?_append_left (by simpa [r.length] using hi)] at e2
      rw [List.getElem?_map] at e1 e2
      cases ed : ds[i]? with
      | none =>
        rw [ed] at e1
        cases e1
      | some d =>
        rw [ed] at e1
        obtain ⟨u, h1, h2⟩ := r.get ed
        rw [h1] at e2
        cases e1
        cases e2
        exact h2
    · rw [List.getElem?_append_right (by simpa using hi)] at e1
      rw [List.getElem?_append_right (by simpa [r.length] using hi)] at e2
      have h1 := List.eq_of_mem_replicate (List.mem_of_getElem? e1)
      have h2 := List.eq_of_mem_replicate (List.mem_of_getElem? e2)
      subst h1 h2
      exact True.intro
/-- behind a def's body -/
@[simp] def endsD (Q : D → Prop) : Ed := { nx := fun _ => Q .non, rt := Q, bk := fun _ => False, ct := fun _ => False }
section
variable {P : Program} {w : World} {K : PySem.W.Frag} {mg : Str → Option Value} {base : Heap} {x qual : Str} {st : Stmt} {f : Addr} {fd : FuncData} {N ps : List Str} {k : Nat} {sp : DSp} {g : WD → (Er → Prop) → GS} {T : List (Addr × Str)}
abbrev cxD (P : Program) (w : World) (K : PySem.W.Frag) (mg : Str → Option Value) (base : Heap) (N : List Str) (qual : Str) (st : Stmt) (f : Addr) (cdv : Value) (A : Around) (outer : List Env) (s : Shared) (H : Hp) (E : XK) : Cx :=
  cxOf (L2.CX P w) P w K mg base N qual (defScope st) f cdv A outer s H E
theorem body_run {cdv : Value} {A : Around} {outer : List Env} {s : Shared} {H : Hp} {E : XK} {W : WD} {F : Hp} {ds : List D} {vs : List V} {Qd : D → Prop} {Q : VK} {R : Er → Prop} (hb : SDs ⟨⟨W, T⟩, F, H⟩ (cxD P w K mg base N qual st f cdv A outer s H E) (defBody st) (g W R))
    (e : Same F H) (dk : DeckIn ⟨W, T⟩ F H) (r : Reps ⟨K, mg⟩ F vs ds) (q : g W R (endsD Qd) (startD N.length ds)) (kf : Fin ⟨⟨W, T⟩, F, H⟩ ⟨K, mg⟩ F H Qd Q) :
    ∃ t, PSs (cxD P w K mg base N qual st f cdv A outer s H E) (defBody st) t ∧ t { nx := fun _ H' => Q .non H', rt := Q } (L2.start N vs) H :=
  ⟨_, hb.run, startD N.length ds, F, endsD Qd, rel_start e dk r, q, ⟨fun σ s F' H' _ R' qn => kf .non qn F' H' .non R'.base R'.deck .non, fun d v F' H' g' dk' r' qd => kf d qd F' H' v g' dk' r', fun _ _ _ _ _ _ z => z.elim, fun _ _ _ _ _ _ z => z.elim⟩⟩
theorem okD (F : Fun K x qual st f fd) (S : FnScope N ps (defScope st)) (hlen : ∀ W ds Q R, sp W ds Q R → ds.length = ps.length)
    (body : ∀ (cdv : Value) (A : Around) (outer : List Env) (s : Shared) (H : Hp) (E : XK) (W : WD) (F : Hp) (R : Er → Prop), Room k (A.deeper (envOfC qual (defScope st) s.heap.objs.size f cdv)) → FinE ⟨W, T⟩ ⟨K, mg⟩ F H R E →
      PassesOwn (model P w) (cxD P w K mg base N qual st f cdv A outer s H E).A (cxD P w K mg base N qual st f cdv A outer s H E).env (cxD P w K mg base N qual st f cdv A outer s H E).xe →
      Passes (L2.CX P w) (cxD P w K mg base N qual st f cdv A outer s H E) E → SDs ⟨⟨W, T⟩, F, H⟩ (cxD P w K mg base N qual st f cdv A outer s H E) (defBody st) (g W R))
    (law : ∀ W ds Q R, sp W ds Q R → g W R (endsD Q) (startD N.length ds)) : FnOk P w K mg base (L2.CX P w) (k + 1) f fd ps (liftSp ⟨K, mg⟩ T sp) := by
  refine F.okX S (fun vs H Q E ⟨W, F, ds, Qd, Rd, h1, h2, h3, h4, _⟩ => h3.length.trans (hlen _ _ _ _ h4)) fun cdv A outer s H vs Q E hr ⟨W, F, ds, Qd, Rd, h1, h2, h3, h4, h5, h6⟩ => ?_
  exact body_run (body cdv A outer s H E W F Rd hr h6 (passes_of rfl) (passes_call (takes_of rfl rfl rfl rfl) fun _ _ _ _ z => z)) h1 h2 h3 (law W ds Qd Rd h4) h5
theorem okG (F : Fun K x qual st f fd) (S : FnScope N ps (defScope st)) (hlen : ∀ W ds Q R, sp W ds Q R → ds.length = ps.length)
    (body : ∀ (cdv : Value) (A : Around) (outer : List Env) (s : Shared) (H : Hp) (E : XK) (W : WD) (F : Hp) (R : Er → Prop), (A.deeper (envOfC qual (defScope st) s.heap.objs.size f cdv)).guards = some [] → Room k (A.deeper (envOfC qual (defScope st) s.heap.objs.size f cdv)) → FinE ⟨W, T⟩ ⟨K, mg⟩ F H R E →
      PassesOwn (model P w) (cxD P w K mg base N qual st f cdv A outer s H E).A (cxD P w K mg base N qual st f cdv A outer s H E).env (cxD P w K mg base N qual st f cdv A outer s H E).xe →
      Passes (L2.CX P w) (cxD P w K mg base N qual st f cdv A outer s H E) E → SDs ⟨⟨W, T⟩, F, H⟩ (cxD P w K mg base N qual st f cdv A outer s H E) (defBody st) (g W R))
    (law : ∀ W ds Q R, sp W ds Q R → g W R (endsD Q) (startD N.length ds)) : FnG P w K mg base (k + 1) f fd ps (liftSp ⟨K, mg⟩ T sp) := by
  obtain ⟨oc, od, kV, doc, pm, an, cdv, ct, osl, rfl, lk, hcd⟩ := F.ex
  refine fn_ofG lk hcd S (fun vs H Q E ⟨W, F, ds, Qd, Rd, h1, h2, h3, h4, _⟩ => h3.length.trans (hlen _ _ _ _ h4)) fun A outer s H vs Q E hG hr ⟨W, F, ds, Qd, Rd, h1, h2, h3, h4, h5, h6⟩ => ?_
  exact body_run (body cdv A outer s H E W F Rd hG hr h6 (passes_of rfl) (passes_call (takes_of rfl rfl rfl rfl) fun _ _ _ _ z => z)) h1 h2 h3 (law W ds Qd Rd h4) h5
end

/-- the def of the name x keeps sp, at the level k -/
structure OkD (P : Program) (w : World) (K : PySem.W.Frag) (mg : Str → Option Value) (base : Heap) (T : List (Addr × Str)) (x : Str) (st : Stmt) (k : Nat) (ps : List Str) (sp : DSp) : Prop where
  ex : ∃ f fd, mg x = some (.ref f) ∧ Fun K x x st f fd ∧ FnOk P w K mg base (L2.CX P w) k f fd ps (liftSp ⟨K, mg⟩ T sp)
structure OkG (P : Program) (w : World) (K : PySem.W.Frag) (mg : Str → Option Value) (base : Heap) (T : List (Addr × Str)) (x : Str) (st : Stmt) (k : Nat) (ps : List Str) (sp : DSp) : Prop where
  ex : ∃ f fd, mg x = some (.ref f) ∧ Fun K x x st f fd ∧ FnG P w K mg base k f fd ps (liftSp ⟨K, mg⟩ T sp)
/-- how the def st binds by position, by keyword -/
abbrev BindsP (x : Str) (st : Stmt) (ps : List Str) : Prop := ∀ (kV doc pm : Value) (an : Option Addr) (cdv ct : Value) (us : List Value), us.length = ps.length → bindArgs (PySem.W.fnOf x x (defArgs st) (defBody st) (defScope st) .none kV doc pm an cdv ct) ⟨us, []⟩ = pure (ps.zip us)
abbrev BindsKw (x : Str) (st : Stmt) (ps ks : List Str) (n m : Nat) (pm : List Nat) : Prop := ∀ (kV doc pmv : Value) (an : Option Addr) (cdv ct : Value) (us ws : List Value), us.length = n → ws.length = m →
  bindArgs (PySem.W.fnOf x x (defArgs st) (defBody st) (defScope st) .none kV doc pmv an cdv ct) ⟨us, ks.zip ws⟩ = pure (ps.zip (permA n m pm us ws))
section
variable {B : Bs} {X : Cx} {k : Nat} {ps : List Str} {sp : DSp} {R : Er → Prop} {E : XK} {x : Str} {st : Stmt} {p pos : Pos} {e : Expr} {es : List Expr} {fs fk : GA} {ks : List Str} {kws : List Keyword} {n m : Nat} {pm : List Nat}
theorem ed_o (O : OkD X.prog X.w X.K X.mg X.base B.W.T x st k ps sp) (b : BindsP x st ps) (hr : Room k X.A) (hx : Passes (L2.CX X.prog X.w) X E) (hE : FinE B.W X.kn B.F B.H R E) (ha : AD B X (e :: es) fs) (hg : Gl X x := by rfl) (hdb : (x == ("__debug__" : Str)) = false := by decide)
    (he : starEach (e :: es) X.env = (false, eval e X.env) :: starEach es X.env := by rfl) (hpl : (backTo pos (starEach es X.env)).any (·.1) = false := by rfl) : ED B X (.Call (.Name x p) (e :: es) [] pos) (gCall sp B.W.p R fs) := by
  obtain ⟨f, fd, hm, F, G⟩ := O.ex
  exact ed_call G hr hg hm F.kp (F.binds b) hx hE ha hdb he hpl
theorem ed_g (O : OkG X.prog X.w X.K X.mg X.base B.W.T x st k ps sp) (b : BindsP x st ps) (hG : X.A.guards = some []) (hr : Room k X.A) (hx : Passes (L2.CX X.prog X.w) X E) (hE : FinE B.W X.kn B.F B.H R E) (ha : AD B X (e :: es) fs) (hg : Gl X x := by rfl) (hdb : (x == ("__debug__" : Str)) = false := by decide)
    (he : starEach (e :: es) X.env = (false, eval e X.env) :: starEach es X.env := by rfl) (hpl : (backTo pos (starEach es X.env)).any (·.1) = false := by rfl) : ED B X (.Call (.Name x p) (e :: es) [] pos) (gCall sp B.W.p R fs) := by
  obtain ⟨f, fd, hm, F, G⟩ := O.ex
  exact ed_callG G hG hr hg hm F.kp (F.binds b) hx hE ha hdb he hpl
theorem kb_of {K : PySem.W.Frag} {f : Addr} {fd : FuncData} (F : Fun K x x st f fd) (hp : ps ≠ []) (b : BindsKw x st ps ks n m pm) : KBinds K fd ps ks (permA n m pm) (permA n m pm) := by
  obtain ⟨oc, od, kV, doc, pmv, an, cdv, ct, osl, rfl, lk, hcd⟩ := F.ex
  exact kb_perm hp fun us ws h1 h2 => b kV doc pmv an cdv ct us ws h1 h2
theorem ed_ok0 (O : OkD X.prog X.w X.K X.mg X.base B.W.T x st k ps sp) (hp : ps ≠ []) (b : BindsKw x st ps ks n m pm) (hr : Room k X.A) (hx : Passes (L2.CX X.prog X.w) X E) (hE : FinE B.W X.kn B.F B.H R E) (hkw : KD B X kws fk) (hg : Gl X x := by rfl)
    (hall : (backToKw pos (keywordEach kws X.env)).all (·.1.isSome) = true := by rfl) (hks : (backToKw pos (keywordEach kws X.env)).filterMap (·.1) = ks := by rfl)
    (hdb : (x == ("__debug__" : Str)) = false := by decide)
    (hpl : ((backTo pos (starEach [] X.env)).any (·.1) || (backToKw pos (keywordEach kws X.env)).any (·.1.isNone)) = false := by rfl) : ED B X (.Call (.Name x p) [] kws pos) (gCallK sp n m pm B.W.p R gNil fk) := by
  obtain ⟨f, fd, hm, F, G⟩ := O.ex
  exact ed_callK0 G hr hg hm F.kp (kb_of F hp b) hx hE hkw hall hks hdb hpl
end
end ND

/-! ND9: the deck: making it, drawing from it -/
namespace ND
open PySem PySem.Spec L2
open PyProof.Rows (envOfC)

theorem nbMax : bootBuiltins "max" = some (.builtin "max") := by decide +kernel
theorem nbMin : bootBuiltins "min" = some (.builtin "min") := by decide +kernel
theorem nbInt : bootBuiltins "int" = some (.type "int") := by decide +kernel
theorem nbBool : bootBuiltins "bool" = some (.type "bool") := by decide +kernel
theorem nbTuple : bootBuiltins "tuple" = some (.type "tuple") := by decide +kernel
theorem nbList : bootBuiltins "list" = some (.type "list") := by decide +kernel
theorem nbLen : bootBuiltins "len" = some (.builtin "len") := by decide +kernel
theorem nbAbs : bootBuiltins "abs" = some (.builtin "abs") := by decide +kernel
theorem nbIsi : bootBuiltins "isinstance" = some (.builtin "isinstance") := by decide +kernel
theorem nbRepr : bootBuiltins "repr" = some (.builtin "repr") := by decide +kernel

theorem nosl {x : Str} {j : Nat} {p : Pos} : NoSl (.Constant (.str x) j p) := fun _ _ => rfl
abbrev iM (t : TA) : TE := tCB (fun xs H Q => (∃ i, xs = [V.int i] ∧ Q (V.int i) H) ∨ ∃ k, xs = [V.bl k] ∧ Q (V.int (if k = true then 1 else 0)) H) t
abbrev aP (a b : TE) : TE := tOp (rI0 fun i j => V.int (i + j)) a b
abbrev mP (a b : TE) : TE := tOp (rI CMul fun i j => V.int (i * j)) a b
abbrev rP (a b : TE) : TE := tOp (rI (fun _ j => 0 < j) fun i j => V.int (i % j)) a b
abbrev fP (a b : TE) : TE := tOp (rI CDivW fun i j => V.int (i / j)) a b
abbrev dG (k : Str) : TE := tDGet (tVar 0) (tC (V.str k))
abbrev tDraw6 : TS :=
  tSeq (tAsg (rP (iM (tCons (mP (tVar 2) (tC (V.int 40692))) tNil)) (tC (V.int 2147483563))) (gName 2))
  (tRet (rP (iM (tCons (fP (tVar 2) (tC (V.int 64))) tNil)) (tVar 1)))
abbrev tDraw5 : TS :=
  tSeq (tAsg (rP (iM (tCons (aP (aP (mP (tVar 2) (tVar 2)) (mP (tC (V.int 52713)) (dG "draws"))) (tC (V.int 92))) tNil)) (tC (V.int 2147483587))) (gName 2)) tDraw6
abbrev tDraw4 : TS :=
  tSeq (tAsg (rP (iM (tCons (aP (mP (tVar 2) (tC (V.int 39373))) (tC (V.int 92))) tNil)) (tC (V.int 2147483647))) (gName 2)) tDraw5
abbrev tDraw3 (K : PySem.W.Frag) : TS :=
  tIfS (tTest (tOp (rNeD K) (dG "cells") (tLst tNil)))
    (tSeq (tAsg (tBM0 K "list" rPop (dG "cells")) (gName 3))
      (tSeq (tIfS (tTest (tOp (rI0 fun i j => V.bl (decide (j ≤ i))) (tVar 3) (tOp (rI CPow fun i j => V.int (i ^ j.toNat)) (tC (V.int 10)) (tC (V.int 18)))))
        (tSeq (tDrop (tBM K "list" rAppend (dG "cells") (tCons (fP (tVar 3) (tCB (fun xs H Q => ∃ i j, xs = [V.int i, V.int j] ∧ Q (V.int (if j > i then j else i)) H) (tCons (tC (V.int 2)) (tCons (tVar 1) tNil)))) tNil)))
          (tRet (rP (iM (tCons (tVar 3) tNil)) (tVar 1))))
        tNext)
      (tAsg (aP (tVar 2) (rP (iM (tCons (tVar 3) tNil)) (tC (V.int 2147483629)))) (gName 2))))
    tNext
abbrev tDraw (c : Int) (K : PySem.W.Frag) : TS :=
  tSeq (sDPut (tVar 0) (tC (V.str "draws")) (aP (dG "draws") (tC (V.int 1))))
  (tSeq (tAsg (aP (dG "mixed") (mP (tC (V.int c)) (dG "draws"))) (gName 2))
  (tSeq (tDraw3 K) tDraw4))

theorem kl_d : (Sum.inr (PySem.Str.ofString "cells") : Key) ≠ Sum.inr (PySem.Str.ofString "draws") := by decide +kernel
theorem km_d : (Sum.inr (PySem.Str.ofString "mixed") : Key) ≠ Sum.inr (PySem.Str.ofString "draws") := by decide +kernel
theorem kl_m : (Sum.inr (PySem.Str.ofString "cells") : Key) ≠ Sum.inr (PySem.Str.ofString "mixed") := by decide +kernel
section
variable {H : Hp} {d l : Addr} {m n : Int} {ns : List Int}
theorem dg_left (h : H d = some (deckO l m n)) : DGet H d (.str "cells") (some (.ref l)) := .inl ⟨_, .inr "cells", .inl h, rfl, by rw [valV_pos rfl]⟩
theorem dg_mixed (h : H d = some (deckO l m n)) : DGet H d (.str "mixed") (some (.int m)) := .inl ⟨_, .inr "mixed", .inl h, rfl, by rw [valV_neg kl_m, valV_pos rfl]⟩
theorem dg_draws (h : H d = some (deckO l m n)) : DGet H d (.str "draws") (some (.int n)) := .inl ⟨_, .inr "draws", .inl h, rfl, by rw [valV_neg kl_d, valV_neg km_d, valV_pos rfl]⟩
theorem dp_draws (h : H d = some (deckO l m n)) (k : Int) : DPut H d (.str "draws") (.int k) (upd H d (deckO l m k)) := .inl ⟨_, .inr "draws", h, rfl, by show 3 < sizeLine; decide, by
  have e : putK [((Sum.inr "cells" : Key), V.ref l), (Sum.inr "mixed", V.int m), (Sum.inr "draws", V.int n)] (Sum.inr "draws") (V.int k) = [((Sum.inr "cells" : Key), V.ref l), (Sum.inr "mixed", V.int m), (Sum.inr "draws", V.int k)] := by
    unfold putK
    simp only [List.any_cons, decide_true, Bool.true_or, Bool.or_true, List.any_nil, if_true, List.map_cons, List.map_nil, kl_d, km_d, if_false]
  rw [e]
  rfl⟩
theorem dp_ints {K : PySem.W.Frag} : ∀ ns : List Int, DpAll K H (ns.map V.int) (ns.map PyData.int)
  | [] => .nil
  | n :: ns => .cons (.int n) (dp_ints ns)
theorem ints_lay : ∀ ns : List Int, PyData.canLayAll0 (ns.map PyData.int) = true ∧ PyData.depthAll (ns.map PyData.int) ≤ 1
  | [] => by simp [PyData.canLayAll0, PyData.depthAll]
  | n :: ns => by
    obtain ⟨h1, h2⟩ := ints_lay ns
    simp only [List.map_cons, PyData.canLayAll0, PyData.depthAll, PyData.canLay0, PyData.depth, Bool.true_and]
    exact ⟨h1, Nat.max_le.mpr ⟨Nat.zero_le _, h2⟩⟩
theorem ints_shaped (ns : List Int) : SeqAt.shaped (.list (ns.map PyData.int)) = true := by
  obtain ⟨h1, h2⟩ := ints_lay ns
  show ((PyData.list (ns.map PyData.int)).canLay0 && decide ((PyData.list (ns.map PyData.int)).depth ≤ 64)) = true
  have d1 : (PyData.list (ns.map PyData.int)).canLay0 = true := by simpa [PyData.canLay0] using h1
  have d2 : (PyData.list (ns.map PyData.int)).depth ≤ 64 := by
    simp only [PyData.depth]
    exact Nat.le_trans (Nat.succ_le_succ h2) (by decide)
  rw [d1, decide_eq_true d2]
  rfl
theorem ints_empty : ∀ ns : List Int, PyData.eqv (.list (ns.map PyData.int)) (.list []) = ns.isEmpty
  | [] => by simp [PyData.eqv, PyData.eqvAll]
  | n :: ns => by simp [PyData.eqv, PyData.eqvAll]

/-- what the deck has become -/
structure DkAt (d l : Addr) (H H' : Hp) (m n : Int) (ns : List Int) : Prop where
  hd : H' d = some (deckO l m n)
  hl : H' l = some (.lst (ns.map V.int))
  kp : ∀ a o, H a = some o → a ≠ d → a ≠ l → H' a = some o
  st : ∀ a, H a ≠ none → H' a ≠ none
  nt : ∀ a ps, H' a = some (.tbl ps) → H a = some (.tbl ps)
theorem DkAt.grow {F H' : Hp} {m' n' : Int} {ns' : List Int} {T : List (Addr × Str)} (h0 : DeckIn ⟨some (d, l), T⟩ F H) (e : Same F H) (h : DkAt d l H H' m' n' ns') (hl : ns'.length ≤ 63) (h1 : 0 ≤ m') (h2 : m' < 2147483587) : Grow ⟨some (d, l), T⟩ F H F H' ∧ DeckIn ⟨some (d, l), T⟩ F H' := by
  have z0 := h0.dk _ rfl
  have zd : ∀ a o, H a = some o → (∀ ks, o ≠ .dK ks) → (∀ xs, o ≠ .lst xs) → H' a = some o := fun a o q n1 n2 => by
    obtain ⟨_, _, _, e1, e2, _⟩ := z0.st
    refine h.kp a o q (fun z => ?_) (fun z => ?_)
    · rw [z, show H d = _ from e1] at q
      exact n1 _ (Option.some.inj q).symm
    · rw [z, show H l = _ from e2] at q
      exact n2 _ (Option.some.inj q).symm
  refine ⟨⟨Same.refl F, fun a o q => h.kp a o (e a o q) (fun z => ?_) (fun z => ?_), fun a o q w _ => h.kp a o q (fun z => w (.inl ⟨_, rfl, .inl z⟩)) fun z => w (.inl ⟨_, rfl, .inr z⟩), fun a q _ => q, h.st⟩, fun p hp => ?_, h0.tf, fun x hx => ?_, h0.nf, fun a ps e => h0.ot a ps (h.nt a ps e)⟩
  · have := z0.fd
    rw [← show a = d from z, q] at this
    cases this
  · have := z0.fl
    rw [← show a = l from z, q] at this
    cases this
  · cases hp
    exact ⟨z0.fd, z0.fl, z0.ne, ns', m', n', h.hd, h.hl, hl, h1, h2⟩
  · obtain ⟨ps, a1, a2, a3⟩ := h0.tb x hx
    refine ⟨ps, zd _ _ a1 (fun _ z => nomatch z) (fun _ z => nomatch z), a2, fun pos cv hc => ?_⟩
    obtain ⟨c, b1, b2⟩ := a3 pos cv hc
    exact ⟨c, b1, zd _ _ b2 (fun _ z => nomatch z) (fun _ z => nomatch z)⟩
theorem mod_lt' {a b : Int} (h : 0 < b) : 0 ≤ a % b ∧ a % b < b := ⟨Int.emod_nonneg _ (by omega), Int.emod_lt_of_pos _ h⟩
theorem small64 {a : Int} (h1 : 0 ≤ a) (h2 : a < 4294967296) : -(2 ^ 64) < a ∧ a < 2 ^ 64 := by
  have e : (2 : Int) ^ 64 = 18446744073709551616 := by decide
  omega
theorem draw6 {D : Ends} {k z : Int} {y : Option V} (hz : 0 ≤ z ∧ z < 2147483587) (hk : 0 < k) (hQ : ∀ r, 0 ≤ r → r < k → D.rt (.int r) H) : tDraw6 D [some (.ref d), some (.int k), some (.int z), y] H := by
  refine ⟨_, rfl, _, _, rfl, rfl, .inl (small64 hz.1 (by omega)), .inl ⟨_, rfl, _, _, rfl, rfl, (by show (0 : Int) < 2147483563; decide), ?_⟩⟩
  refine ⟨_, rfl, _, _, rfl, rfl, ⟨by decide, by decide⟩, .inl ⟨_, rfl, _, rfl, _, _, rfl, rfl, hk, ?_⟩⟩
  exact hQ _ (mod_lt' hk).1 (mod_lt' hk).2
theorem draw5 {D : Ends} {k z : Int} {y : Option V} (hd : H d = some (deckO l m n)) (hz : 0 ≤ z ∧ z < 2147483647) (hk : 0 < k) (hQ : ∀ r, 0 ≤ r → r < k → D.rt (.int r) H) : tDraw5 D [some (.ref d), some (.int k), some (.int z), y] H :=
  ⟨_, rfl, _, rfl, _, _, rfl, rfl, .inl (small64 hz.1 (by omega)), _, rfl, _, _, rfl, dg_draws hd, _, _, rfl, rfl, .inl (small64 (by decide) (by decide)), _, _, rfl, rfl, _, _, rfl, rfl, .inl ⟨_, rfl, _, _, rfl, rfl, (by show (0 : Int) < 2147483587; decide), draw6 (mod_lt' (by decide)) hk hQ⟩⟩
theorem draw4 {D : Ends} {k z : Int} {y : Option V} (hd : H d = some (deckO l m n)) (hk : 0 < k) (hQ : ∀ r, 0 ≤ r → r < k → D.rt (.int r) H) : tDraw4 D [some (.ref d), some (.int k), some (.int z), y] H :=
  ⟨_, rfl, _, _, rfl, rfl, .inr (small64 (by decide) (by decide)), _, _, rfl, rfl, .inl ⟨_, rfl, _, _, rfl, rfl, (by show (0 : Int) < 2147483647; decide), draw5 hd (mod_lt' (by decide)) hk hQ⟩⟩
theorem draw_law {K : PySem.W.Frag} {c : Int} {D : Ends} {k : Int} {y1 y2 : Option V} (hc : -(2 ^ 64) < c ∧ c < 2 ^ 64) (hd : H d = some (deckO l m n)) (hl : H l = some (.lst (ns.map V.int))) (hdl : d ≠ l) (hn : ns.length ≤ 63) (hk : 0 < k) (hk2 : k < 2 ^ 62)
    (hQ : ∀ H' n' ns' r, DkAt d l H H' m n' ns' → ns'.length ≤ 63 → 0 ≤ r → r < k → D.rt (.int r) H') : tDraw c K D [some (.ref d), some (.int k), y1, y2] H := by
  refine ⟨_, rfl, _, _, rfl, dg_draws hd, _, _, rfl, rfl, _, rfl, _, _, rfl, dp_draws hd (n + 1), ?_⟩
  have hd1 : upd H d (deckO l m (n + 1)) d = some (deckO l m (n + 1)) := upd_same
  have hl1 : upd H d (deckO l m (n + 1)) l = some (.lst (ns.map V.int)) := by rw [upd_ne hdl.symm]; exact hl
  have k1 : ∀ a o, H a = some o → a ≠ d → a ≠ l → upd H d (deckO l m (n + 1)) a = some o := fun a o q z _ => by rw [upd_ne z]; exact q
  have s1 : ∀ a, H a ≠ none → upd H d (deckO l m (n + 1)) a ≠ none := fun a q => upd_keep q
  have t1 : ∀ a ps, upd H d (deckO l m (n + 1)) a = some (.tbl ps) → H a = some (.tbl ps) := ot_upd (by intro _ z; cases z)
  generalize upd H d (deckO l m (n + 1)) = H1 at hd1 hl1 k1 s1 t1 ⊢
  refine ⟨_, rfl, _, _, rfl, dg_mixed hd1, _, rfl, _, _, rfl, dg_draws hd1, _, _, rfl, rfl, .inl hc, _, _, rfl, rfl, ?_⟩
  generalize m + c * (n + 1) = z
  refine ⟨_, rfl, _, _, rfl, dg_left hd1, Nat.zero_le _, fun p hp => ?_⟩
  have npd : d ≠ p := ne_of_none hd1 hp
  have npl : l ≠ p := ne_of_none hl1 hp
  have hd2 : upd H1 p (.lst []) d = some (deckO l m (n + 1)) := by rw [upd_ne npd]; exact hd1
  have hl2 : upd H1 p (.lst []) l = some (.lst (ns.map V.int)) := by rw [upd_ne npl]; exact hl1
  have k2 : ∀ a o, H a = some o → a ≠ d → a ≠ l → upd H1 p (.lst []) a = some o := fun a o q z z2 => by
    have w := k1 a o q z z2
    rw [upd_ne (ne_of_none w hp)]
    exact w
  have s2 : ∀ a, H a ≠ none → upd H1 p (.lst []) a ≠ none := fun a q => upd_keep (s1 a q)
  have hp2 : upd H1 p (.lst []) p = some (.lst []) := upd_same
  have t2 : ∀ a ps, upd H1 p (.lst []) a = some (.tbl ps) → H a = some (.tbl ps) := fun a ps e => t1 a ps (ot_upd (by intro _ z; cases z) a ps e)
  generalize upd H1 p (.lst []) = H2 at hd2 hl2 k2 s2 hp2 t2 ⊢
  refine ⟨.list (ns.map PyData.int), .list [], .lst (SqL.of hl2) (dp_ints ns), .lst (SqL.of hp2) .nil, ints_shaped ns, by decide +kernel, _, rfl, ?_⟩
  rw [ints_empty]
  cases hns : ns.isEmpty with
  | true => exact draw4 hd2 hk fun r h1 h2 => hQ H2 (n + 1) ns r ⟨hd2, hl2, k2, s2, t2⟩ hn h1 h2
  | false =>
    have hne : ns ≠ [] := by
      intro z
      rw [z] at hns
      cases hns
    obtain ⟨cs, cell, rfl⟩ : ∃ cs cell, ns = cs ++ [cell] := ⟨ns.dropLast, ns.getLast hne, (List.dropLast_concat_getLast hne).symm⟩
    have hcs : cs.length + 1 ≤ 63 := by simpa using hn
    have e0 : ((cs ++ [cell]).map V.int).dropLast = cs.map V.int := by simp
    refine ⟨_, rfl, _, _, rfl, dg_left hd2, .inl ⟨rfl, _, SqL.of hl2⟩, _, _, .int cell, rfl, rfl, hl2, by simp, ?_⟩
    rw [e0]
    have hd3 : upd H2 l (.lst (cs.map V.int)) d = some (deckO l m (n + 1)) := by rw [upd_ne hdl]; exact hd2
    have hl3 : upd H2 l (.lst (cs.map V.int)) l = some (.lst (cs.map V.int)) := upd_same
    have k3 : ∀ a o, H a = some o → a ≠ d → a ≠ l → upd H2 l (.lst (cs.map V.int)) a = some o := fun a o q z z2 => by rw [upd_ne z2]; exact k2 a o q z z2
    have s3 : ∀ a, H a ≠ none → upd H2 l (.lst (cs.map V.int)) a ≠ none := fun a q => upd_keep (s2 a q)
    have t3 : ∀ a ps, upd H2 l (.lst (cs.map V.int)) a = some (.tbl ps) → H a = some (.tbl ps) := fun a ps e => t2 a ps (ot_upd (by intro _ z; cases z) a ps e)
    generalize upd H2 l (.lst (cs.map V.int)) = H3 at hd3 hl3 k3 s3 t3 ⊢
    refine ⟨_, rfl, _, _, rfl, rfl, ⟨by decide, by decide, by decide⟩, _, _, rfl, rfl, _, rfl, ?_⟩
    refine ite2 (fun hbig => ?_) (fun hbig => ?_)
    · skip
      have hmax : 0 < (if k > 2 then k else 2) ∧ (if k > 2 then k else 2) < 2 ^ 62 := by
        have e62 : (2 : Int) ^ 62 = 4611686018427387904 := by decide
        rw [e62] at hk2 ⊢
        split <;> omega
      refine ⟨_, rfl, _, _, rfl, dg_left hd3, .inl ⟨rfl, _, SqL.of hl3⟩, _, rfl, _, rfl, _, _, rfl, _, _, rfl, rfl, ⟨hmax.1, ?_⟩, _, _, _, rfl, rfl, hl3, by rw [List.length_map]; exact Nat.lt_of_le_of_lt (by omega : cs.length ≤ 63) (by decide), ?_⟩
      · have h9 : (if k > 2 then k else 2).natAbs < 2 ^ 62 := by
          have e62 : (2 : Int) ^ 62 = 4611686018427387904 := by decide
          have f62 : (2 : Nat) ^ 62 = 4611686018427387904 := by decide
          rw [e62] at hmax
          rw [f62]
          omega
        exact Nat.lt_of_le_of_lt (PySem.W.mg_log (k := 61) h9) (by decide)
      · refine ⟨_, rfl, .inl ⟨_, rfl, _, rfl, _, _, rfl, rfl, hk, ?_⟩⟩
        refine hQ _ (n + 1) (cs ++ [cell / (if k > 2 then k else 2)]) _ ⟨?_, ?_, fun a o q z z2 => ?_, fun a q => upd_keep (s3 a q), fun a ps e => t3 a ps (ot_upd (by intro _ z; cases z) a ps e)⟩ (by simpa using hcs) (mod_lt' hk).1 (mod_lt' hk).2
        · rw [upd_ne hdl]; exact hd3
        · rw [upd_same]; simp
        · rw [upd_ne z2]; exact k3 a o q z z2
    · refine ⟨_, rfl, _, rfl, .inl ⟨_, rfl, _, _, rfl, rfl, (by show (0 : Int) < 2147483629; decide), _, _, rfl, rfl, ?_⟩⟩
      exact draw4 hd3 hk fun r h1 h2 => hQ H3 (n + 1) cs r ⟨hd3, hl3, k3, s3, t3⟩ (by omega) h1 h2
end
/-- what drawing keeps -/
def spDraw : DSp := fun W ds Q _ => ∃ d l k, W = some (d, l) ∧ ds = [.opq (.ref d), .int k] ∧ 0 < k ∧ k < 2 ^ 62 ∧ ∀ r, 0 ≤ r → r < k → Q (.int r)
theorem okDraw {P : Program} {w : World} {K : PySem.W.Frag} {mg : Str → Option Value} {base : Heap} {x qual : Str} {st : Stmt} {f : Addr} {fd : FuncData} {N ps : List Str} {c : Int} {T : List (Addr × Str)} (F : Fun K x qual st f fd) (S : FnScope N ps (defScope st)) (hN : N.length = 4) (hp : ps.length = 2) (hc : -(2 ^ 64) < c ∧ c < 2 ^ 64)
    (body : ∀ (cdv : Value) (A : Around) (outer : List Env) (s : Shared) (H : Hp) (E : XK), Room 0 (A.deeper (envOfC qual (defScope st) s.heap.objs.size f cdv)) → PSs (cxD P w K mg base N qual st f cdv A outer s H E) (defBody st) (tDraw c K)) : FnOk P w K mg base (L2.CX P w) 1 f fd ps (liftSp ⟨K, mg⟩ T spDraw) := by
  refine F.okX S (fun vs H Q E ⟨W, F, ds, Qd, Rd, h1, h2, h3, ⟨d, l, k, _, h4, _⟩, _⟩ => ?_) fun cdv A outer s H vs Q E hr ⟨W, F, ds, Qd, Rd, h1, h2, h3, ⟨d, l, k, hW, hds, hk, hk2, hq⟩, h5, h6⟩ => ?_
  · rw [h3.length, h4, hp]
    rfl
  · refine ⟨_, body cdv A outer s H E hr, ?_⟩
    subst hds hW
    obtain ⟨v1, v2, rfl, r1, r2⟩ : ∃ v1 v2, vs = [v1, v2] ∧ Rep ⟨K, mg⟩ F v1 (.opq (.ref d)) ∧ Rep ⟨K, mg⟩ F v2 (.int k) := by
      cases h3 with
      | cons a t =>
        cases t with
        | cons b t =>
          cases t
          exact ⟨_, _, rfl, a, b⟩
    cases r1
    cases r2
    have dk := h2.dk _ rfl
    obtain ⟨ns, m, n, e1, e2, e3, e4, e5⟩ := dk.st
    have es : L2.start N [V.ref d, V.int k] = [some (.ref d), some (.int k), none, none] := by
      unfold L2.start
      rw [hN]
      rfl
    rw [es]
    exact draw_law hc e1 e2 dk.ne e3 hk hk2 fun H' n' ns' r z hl hr0 hr1 => by
      obtain ⟨g, dk'⟩ := z.grow h2 h1 hl e4 e5
      exact h5 _ (hq r hr0 hr1) F H' _ g dk' (.int r)
end ND

/-! ND10: making the deck; the law's own def -/
namespace ND
open PySem PySem.Spec L2
open PyProof.Rows (envOfC)

abbrev sL (K : PySem.W.Frag) : TE := tSl (rSlL K) (tVar 0) tNoPart (tPart (tC (V.int 63)))
abbrev tDeck (c b : Int) (K : PySem.W.Frag) : TS :=
  tSeq (tAsg (aP (tC (V.int 10879000)) (tC (V.int 92))) (gName 1))
  (tSeq (tFor (iList K (sL K)) (gName 2) (tAsg (rP (iM (tCons (aP (aP (mP (tVar 1) (tC (V.int 48271))) (rP (iM (tCons (tVar 2) tNil)) (tC (V.int 2147483629)))) (tC (V.int b))) tNil)) (tC (V.int 2147483587))) (gName 1)))
  (tRet (tDisp [(tC (V.str "cells"), tRevL K (tCB (fun xs H Q => ∃ p ys, xs = [V.ref p] ∧ (SqL K H p ys ∨ SqT K H p ys) ∧ ∀ l, H l = none → Q (V.ref l) (upd H l (.lst ys))) (tCons (sL K) tNil))), (tC (V.str "mixed"), tVar 1), (tC (V.str "draws"), tC (V.int 0))])))
theorem cut_ints (ns : List Int) (lo hi : Option Int) (h : ns.length ≤ 63) : ∃ ms : List Int, cutV (ns.map V.int) lo hi = ms.map V.int ∧ ms.length ≤ 63 := by
  refine ⟨(ns.drop (HT.sIx (ns.map V.int).length 0 lo)).take (HT.sIx (ns.map V.int).length (ns.map V.int).length hi - HT.sIx (ns.map V.int).length 0 lo), ?_, ?_⟩
  · unfold cutV
    rw [List.map_take, List.map_drop]
  · rw [List.length_take, List.length_drop]
    omega
theorem merge_deck (l : Addr) (m n : Int) : mergeK [] [((Sum.inr "cells" : Key), V.ref l), (Sum.inr "mixed", V.int m), (Sum.inr "draws", V.int n)] = [((Sum.inr "cells" : Key), V.ref l), (Sum.inr "mixed", V.int m), (Sum.inr "draws", V.int n)] := by
  have a1 := kl_m
  have a2 := kl_d
  have a3 := km_d
  simp [mergeK, putK, a1, a2, a3]
section
variable {K : PySem.W.Frag} {H : Hp} {a : Addr} {ns : List Int} {c b : Int} {D : Ends}
theorem deck_law (hcc : c = 10879000 + 92) (hc : 0 ≤ c ∧ c < 2147483587) (hS : SqL K H a (ns.map V.int)) (hn : ns.length ≤ 63)
    (hQ : ∀ (H' : Hp) (d l : Addr) (m : Int) (ns' : List Int), Same H H' → (∀ a ps, H' a = some (.tbl ps) → H a = some (.tbl ps)) → H d = none → H l = none → d ≠ l → H' d = some (deckO l m 0) → H' l = some (.lst (ns'.map V.int)) → ns'.length ≤ 63 → 0 ≤ m → m < 2147483587 → D.rt (.ref d) H') :
    tDeck c b K D [some (.ref a), none, none] H := by
  subst hcc
  obtain ⟨ms, em, hm⟩ := cut_ints ns none (some 63) hn
  refine ⟨_, _, rfl, rfl, _, rfl, _, rfl, a, _, rfl, hS, fun p hp => ⟨p, rfl, ⟨_, SqL.of upd_same⟩, ?_⟩⟩
  have hSp : Same H (upd H p (.lst (ms.map V.int))) := same_new hp
  rw [em]
  refine for_list (K := K) (a := p) (xs := ms.map V.int) (fun i σ H' => H' = upd H p (.lst (ms.map V.int)) ∧ ∃ m v, σ = [some (.ref a), some (.int m), v] ∧ 0 ≤ m ∧ m < 2147483587) ⟨rfl, 10879000 + 92, none, rfl, hc⟩ (fun i σ H' _ ⟨e, _⟩ => by rw [e]; exact SqL.of upd_same) ?_ ?_
  · rintro i y σ H' hi ⟨rfl, m, v, rfl, h1, h2⟩
    obtain ⟨z, rfl⟩ : ∃ z, y = V.int z := by
      obtain ⟨z, _, e⟩ := List.mem_map.mp (List.mem_of_getElem? hi)
      exact ⟨z, e.symm⟩
    exact ⟨_, rfl, _, _, rfl, rfl, .inr (small64 (by decide) (by decide)), _, rfl, .inl ⟨_, rfl, _, _, rfl, rfl, (by show (0 : Int) < 2147483629; decide), _, _, rfl, rfl, _, _, rfl, rfl, .inl ⟨_, rfl, _, _, rfl, rfl, (by show (0 : Int) < 2147483587; decide), rfl, _, _, rfl, mod_lt' (by decide)⟩⟩⟩
  · rintro σ H' ⟨rfl, m, v, rfl, h1, h2⟩
    have tSp : ∀ a ps, upd H p (.lst (ms.map V.int)) a = some (.tbl ps) → H a = some (.tbl ps) := ot_upd (by intro _ z; cases z)
    generalize upd H p (.lst (ms.map V.int)) = H1 at hSp tSp
    intro d hd
    have hS1 : Same H1 (upd H1 d (.dK [])) := same_new hd
    have hd2 : upd H1 d (.dK []) d = some (.dK []) := upd_same
    have d0 := hSp.free hd
    have hS' := hSp.trans hS1
    have tS' : ∀ a ps, upd H1 d (.dK []) a = some (.tbl ps) → H a = some (.tbl ps) := fun a ps e => tSp a ps (ot_upd (by intro _ z; cases z) a ps e)
    generalize upd H1 d (.dK []) = H2 at hd2 hS' tS'
    refine ⟨_, rfl, _, rfl, a, _, rfl, hS'.seq hS, fun q hq => ?_⟩
    have hd3 : upd H2 q (.lst (cutV (ns.map V.int) none (some 63))) d = some (.dK []) := by rw [upd_ne (ne_of_none hd2 hq)]; exact hd2
    have hS3 := hS'.trans (same_new (o := .lst (cutV (ns.map V.int) none (some 63))) hq)
    have hq3 : upd H2 q (.lst (cutV (ns.map V.int) none (some 63))) q = some (.lst (cutV (ns.map V.int) none (some 63))) := upd_same
    have tS3 : ∀ a ps, upd H2 q (.lst (cutV (ns.map V.int) none (some 63))) a = some (.tbl ps) → H a = some (.tbl ps) := fun a ps e => tS' a ps (ot_upd (by intro _ z; cases z) a ps e)
    generalize upd H2 q (.lst (cutV (ns.map V.int) none (some 63))) = H3 at hd3 hS3 hq3 tS3
    refine ⟨q, _, rfl, .inl (SqL.of hq3), fun r hr => ?_⟩
    rw [em] at hq3 ⊢
    have hd4 : upd H3 r (.lst (ms.map V.int)) d = some (.dK []) := by rw [upd_ne (ne_of_none hd3 hr)]; exact hd3
    have hS4 := hS3.trans (same_new (o := .lst (ms.map V.int)) hr)
    have hr4 : upd H3 r (.lst (ms.map V.int)) r = some (.lst (ms.map V.int)) := upd_same
    have tS4 : ∀ a ps, upd H3 r (.lst (ms.map V.int)) a = some (.tbl ps) → H a = some (.tbl ps) := fun a ps e => tS3 a ps (ot_upd (by intro _ z; cases z) a ps e)
    generalize upd H3 r (.lst (ms.map V.int)) = H4 at hd4 hS4 hr4 tS4
    refine ⟨r, _, rfl, SqL.of hr4, fun l hl => ?_⟩
    have ndl : d ≠ l := ne_of_none hd4 hl
    have l0 := hS4.free hl
    have er : (ms.map V.int).reverse = (ms.reverse).map V.int := by rw [List.map_reverse]
    rw [er]
    refine ⟨_, rfl, by rw [upd_ne ndl]; exact hd4, [(.inr "cells", .ref l), (.inr "mixed", .int m), (.inr "draws", .int 0)], rfl, (by show 3 ≤ 15; decide), ?_⟩
    rw [merge_deck]
    refine hQ _ d l m ms.reverse (fun b o e => ?_) (fun a ps e => tS4 a ps (ot_upd (by intro _ z; cases z) a ps (ot_upd (by intro _ z; cases z) a ps e))) d0 l0 ndl upd_same (by rw [upd_ne ndl.symm]; exact upd_same) (by simpa using hm) h1 h2
    have nb : b ≠ d := fun z => by rw [z, d0] at e; cases e
    rw [upd_ne nb]
    have nb2 : b ≠ l := fun z => by rw [z, l0] at e; cases e
    rw [upd_ne nb2]
    exact hS4 _ _ e
end
/-- a new deck -/
def spDeck (K : PySem.W.Frag) : Sp := fun vs H Q _ => ∃ (a : Addr) (ns : List Int), vs = [.ref a] ∧ SqL K H a (ns.map V.int) ∧ ns.length ≤ 63 ∧ ∀ H' d l, Same H H' → (∀ a ps, H' a = some (.tbl ps) → H a = some (.tbl ps)) → H d = none → H l = none → DeckAt (d, l) (fun _ => none) H' → Q (.ref d) H'
theorem okDeck {P : Program} {w : World} {K : PySem.W.Frag} {mg : Str → Option Value} {base : Heap} {x qual : Str} {st : Stmt} {f : Addr} {fd : FuncData} {N ps : List Str} {c b : Int} (F : Fun K x qual st f fd) (S : FnScope N ps (defScope st)) (hN : N.length = 3) (hp : ps.length = 1) (hcc : c = 10879000 + 92) (hc : 0 ≤ c ∧ c < 2147483587)
    (body : ∀ (cdv : Value) (A : Around) (outer : List Env) (s : Shared) (H : Hp) (E : XK), Room 0 (A.deeper (envOfC qual (defScope st) s.heap.objs.size f cdv)) → PSs (cxD P w K mg base N qual st f cdv A outer s H E) (defBody st) (tDeck c b K)) : FnOk P w K mg base (L2.CX P w) 1 f fd ps (spDeck K) := by
  refine F.okX S (fun vs H Q E ⟨a, ns, h1, _⟩ => ?_) fun cdv A outer s H vs Q E hr ⟨a, ns, h1, h2, h3, h4⟩ => ⟨_, body cdv A outer s H E hr, ?_⟩
  · rw [h1, hp]
    rfl
  · subst h1
    have es : L2.start N [V.ref a] = [some (.ref a), none, none] := by
      unfold L2.start
      rw [hN]
      rfl
    rw [es]
    exact deck_law hcc hc h2 h3 fun H' d l m ns' s1 t1 d0 l0 ndl e1 e2 hl m0 m1 => h4 H' d l s1 t1 d0 l0 ⟨rfl, rfl, ndl, ns', m, 0, e1, e2, hl, m0, m1⟩

/-! ### the law: its first statement makes the deck -/
def hp0 : Hp := fun _ => none
theorem pss_deck {T : List (Addr × Str)} {X : Cx} {rest : List Stmt} {g : WD → GS} (h : ∀ p H0, SDs ⟨⟨some p, T⟩, hp0, H0⟩ X rest (g (some p))) : PSs X rest fun Dn s H => ∃ p H0, LS ⟨⟨some p, T⟩, hp0, H0⟩ X.kn (g (some p)) Dn s H :=
  ⟨fun pins s σ H Dn I ⟨p, H0, q⟩ => (h p H0).run.run pins s σ H Dn I q⟩
/-- what the law promises -/
def spLaw (K : PySem.W.Frag) (T : List (Addr × Str)) : Sp := fun vs H Q _ => ∃ (a : Addr) (script : List Int), vs = [.ref a] ∧ SqL K H a (script.map V.int) ∧ script.length ≤ 63 ∧ (∀ x, x ∈ T → H x.1 = some (.tbl #[])) ∧ (∀ a ps, H a = some (.tbl ps) → ∃ x, x ∈ T ∧ a = x.1) ∧ ∀ G, Q (.bl true) G
theorem okLaw {P : Program} {w : World} {K : PySem.W.Frag} {mg : Str → Option Value} {base : Heap} {x qual : Str} {st s0 : Stmt} {rest : List Stmt} {f : Addr} {fd : FuncData} {N : List Str} {y : Str} {k : Nat} {g : WD → GS} {T : List (Addr × Str)} (F : Fun K x qual st f fd) (S : FnScope N [y] (defScope st)) (hN : 1 < N.length)
    (hst : defBody st = s0 :: rest)
    (body : ∀ (cdv : Value) (A : Around) (outer : List Env) (s : Shared) (H : Hp) (E : XK), (A.deeper (envOfC qual (defScope st) s.heap.objs.size f cdv)).guards = some [] → Room k (A.deeper (envOfC qual (defScope st) s.heap.objs.size f cdv)) →
      PassesOwn (model P w) (cxD P w K mg base N qual st f cdv A outer s H E).A (cxD P w K mg base N qual st f cdv A outer s H E).env (cxD P w K mg base N qual st f cdv A outer s H E).xe →
      Passes (L2.CX P w) (cxD P w K mg base N qual st f cdv A outer s H E) E →
      PS (cxD P w K mg base N qual st f cdv A outer s H E) s0 (tAsg (tCall (spDeck K) [] E (tCons (tVar 0) tNil)) (gName 1)) ∧
      ∀ p H0, SDs ⟨⟨some p, T⟩, hp0, H0⟩ (cxD P w K mg base N qual st f cdv A outer s H E) rest (g (some p)))
    (law : ∀ (d l : Addr) (v : V), g (some (d, l)) (endsD fun r => r = .bl true) (.d (.opq v) :: .d (.opq (.ref d)) :: List.replicate (N.length - 2) .no)) : FnG P w K mg base (k + 1) f fd [y] (spLaw K T) := by
  obtain ⟨oc, od, kV, doc, pm, an, cdv, ct, osl, rfl, lk, hcd⟩ := F.ex
  refine fn_ofG lk hcd S (fun vs H Q E ⟨a, ns, h1, _⟩ => by rw [h1]; rfl) fun A outer s H vs Q E hG hr ⟨a, ns, h1, h2, h3, hT, hO, h4⟩ => ?_
  subst h1
  obtain ⟨b1, b2⟩ := body cdv A outer s H E hG hr (passes_of rfl) (passes_call (takes_of rfl rfl rfl rfl) fun _ _ _ _ z => z)
  have b3 := pss_cons b1 (pss_deck b2)
  rw [← hst] at b3
  refine ⟨_, b3, ?_⟩
  have es : L2.start N [V.ref a] = some (.ref a) :: none :: List.replicate (N.length - 2) none := by
    unfold L2.start
    obtain ⟨m, hm⟩ : ∃ m, N.length = m + 2 := ⟨N.length - 2, by omega⟩
    rw [hm]
    rfl
  rw [es]
  refine ⟨_, rfl, a, ns, rfl, h2, h3, fun H' d l s1 t1 d0 l0 dk => ?_⟩
  refine ⟨(d, l), H', .d (.opq (.ref a)) :: .d (.opq (.ref d)) :: List.replicate (N.length - 2) .no, hp0, endsD fun r => r = .bl true, ?_, law d l (.ref a), ?_⟩
  · have dki : DeckIn ⟨some (d, l), T⟩ hp0 H' := ⟨fun p hp => by cases hp; exact dk, fun _ _ => rfl, fun x hx => LamX.TabS.nil (s1 _ _ (hT x hx)), fun _ _ z => (nomatch z), fun a ps e => hO a ps (t1 a ps e)⟩
    refine ⟨Grow.refl fun _ _ z => (nomatch z), dki, dki, by simp, fun _ => none, ⟨fun i j a z => (nomatch z), fun i a z => (nomatch z)⟩, fun i z v e1 e2 => ?_⟩
    match i with
    | 0 =>
      simp only [List.getElem?_cons_zero, Option.some.injEq] at e1
      have e2' : some (some (V.ref a)) = some v := e2
      cases e2'
      subst e1
      exact .opq _
    | 1 =>
      have e1' : some (SV.d (.opq (.ref d))) = some z := e1
      have e2' : some (some (V.ref d)) = some v := e2
      cases e1'
      cases e2'
      exact .opq _
    | i + 2 =>
      have e1' : (List.replicate (N.length - 2) SV.no)[i]? = some z := e1
      have e2' : (List.replicate (N.length - 2) (none : Option V))[i]? = some v := e2
      have h1 := List.eq_of_mem_replicate (List.mem_of_getElem? e1')
      have h2 := List.eq_of_mem_replicate (List.mem_of_getElem? e2')
      subst h1 h2
      exact True.intro
  · refine ⟨fun _ _ _ _ _ _ z => ?_, fun r v F' H2 _ _ rv e => ?_, fun _ _ _ _ _ _ z => z.elim, fun _ _ _ _ _ _ z => z.elim⟩
    · cases (show D.non = .bl true from z)
    · subst e
      cases rv
      exact h4 _
end ND

/-! ND11: the end of a law, from FnG -/
namespace ND
open PySem PySem.Spec L2 PyProof.Rows
open PyProof.Rows (envOfC)

/-- the script alone is tracked, if it is not of the written part -/
def scH (K : PySem.W.Frag) (a : Addr) (o : Obj) (ns : List Int) : Hp := fun b => if b = a ∧ K.lookup a = none then some (.frz o (.lst (ns.map V.int))) else none
theorem scH_some {K : PySem.W.Frag} {a b : Addr} {o : Obj} {ns : List Int} {u : HO} (h : scH K a o ns b = some u) : b = a ∧ K.lookup a = none ∧ u = .frz o (.lst (ns.map V.int)) := by
  unfold scH at h
  split at h
  · rename_i c
    cases h
    exact ⟨c.1, c.2, rfl⟩
  · cases h
theorem hu65_of {A : Around} {k : Nat} (hr : Room k A) : A.units + 65 < cLine := by have := hr.un; omega
end ND
namespace ND
open PySem PySem.Spec L2
/-! ### for the plain laws -/
@[simp] theorem addD_i (i j : Int) (Q : D → Prop) : addD (.int i) (.int j) Q = Q (.int (i + j)) := rfl
@[simp] theorem addD_s (i j : Str) (Q : D → Prop) : addD (.str i) (.str j) Q = (i.length + j.length ≤ sizeLine ∧ Q (.str (i ++ j))) := rfl
@[simp] theorem addD_t (i j : List D) (Q : D → Prop) : addD (.tup i) (.tup j) Q = (i.length + j.length ≤ sizeLine ∧ Q (.tup (i ++ j))) := rfl
@[simp] theorem addD_l (i j : List D) (Q : D → Prop) : addD (.lst i) (.lst j) Q = (i.length + j.length ≤ sizeLine ∧ Q (.lst (i ++ j))) := rfl
@[simp] theorem subD_i (i j : Int) (Q : D → Prop) : subD (.int i) (.int j) Q = Q (.int (i - j)) := rfl
@[simp] theorem mulD_i (i j : Int) (Q : D → Prop) : mulD (.int i) (.int j) Q = (ND.MulOk i j ∧ Q (.int (i * j))) := rfl
@[simp] theorem modD_i (i j : Int) (Q : D → Prop) : modD (.int i) (.int j) Q = (0 < j ∧ Q (.int (i % j))) := rfl
@[simp] theorem powD_i (i j : Int) (Q : D → Prop) : powD (.int i) (.int j) Q = (0 ≤ j ∧ j ≤ 1000000 ∧ i.natAbs < 2 ^ 64 ∧ Q (.int (i ^ j.toNat))) := rfl
@[simp] theorem negD_i (i : Int) (Q : D → Prop) : negD (.int i) Q = Q (.int (-i)) := rfl
@[simp] theorem ltD_i (i j : Int) (Q : D → Prop) : ltD (.int i) (.int j) Q = Q (.bl (decide (i < j))) := rfl
@[simp] theorem leD_i (i j : Int) (Q : D → Prop) : leD (.int i) (.int j) Q = Q (.bl (decide (i ≤ j))) := rfl
@[simp] theorem gtD_i (i j : Int) (Q : D → Prop) : gtD (.int i) (.int j) Q = Q (.bl (decide (j < i))) := rfl
@[simp] theorem geD_i (i j : Int) (Q : D → Prop) : geD (.int i) (.int j) Q = Q (.bl (decide (j ≤ i))) := rfl
@[simp] theorem truthD_b (i : Bool) (Q : Bool → Prop) : truthD (.bl i) Q = Q i := rfl
@[simp] theorem truthD_n (Q : Bool → Prop) : truthD .non Q = Q false := rfl
@[simp] theorem truthD_i (i : Int) (Q : Bool → Prop) : truthD (.int i) Q = Q (i != 0) := rfl
@[simp] theorem truthD_t (i : List D) (Q : Bool → Prop) : truthD (.tup i) Q = Q (!i.isEmpty) := rfl
@[simp] theorem truthD_l (i : List D) (Q : Bool → Prop) : truthD (.lst i) Q = Q (!i.isEmpty) := rfl
@[simp] theorem lenD_l (i : List D) (Q : D → Prop) : lenD [.lst i] Q = Q (.int i.length) := rfl
@[simp] theorem lenD_t (i : List D) (Q : D → Prop) : lenD [.tup i] Q = Q (.int i.length) := rfl
@[simp] theorem lenD_s (x : Str) (Q : D → Prop) : lenD [.str x] Q = (x.length ≤ sizeLine ∧ Q (.int x.length)) := rfl
@[simp] theorem intD_i (i : Int) (Q : D → Prop) : intD [.int i] Q = Q (.int i) := rfl
@[simp] theorem intD_b (i : Bool) (Q : D → Prop) : intD [.bl i] Q = Q (.int (if i = true then 1 else 0)) := rfl
@[simp] theorem intD_s (x : Str) (Q : D → Prop) : intD [.str x] Q = (∃ n, intText? x = some n ∧ x.length ≤ 640 ∧ Q (.int n)) := rfl
@[simp] theorem absD_i (i : Int) (Q : D → Prop) : absD [.int i] Q = Q (.int (if i < 0 then -i else i)) := rfl
@[simp] theorem max2D_i (i j : Int) (Q : D → Prop) : max2D [.int i, .int j] Q = Q (.int (if j > i then j else i)) := rfl
@[simp] theorem min2D_i (i j : Int) (Q : D → Prop) : min2D [.int i, .int j] Q = Q (.int (if j < i then j else i)) := rfl
@[simp] theorem gcdD_i (i j : Int) (Q : D → Prop) : gcdD [.int i, .int j] Q = Q (.int ((Nat.gcd i.natAbs j.natAbs : Nat) : Int)) := rfl
@[simp] theorem isiD_t (x : D) (T : String) (Q : D → Prop) : isiD [x, .opq (.ty T)] Q = (knownT T = true ∧ (tyD x).isSome = true ∧ Q (.bl (isiB T x))) := rfl
@[simp] theorem eqD_s (a b : Str) (Q : D → Prop) : eqD (.str a) (.str b) Q = Q (.bl (decide (a = b))) := rfl
@[simp] theorem neD_s (a b : Str) (Q : D → Prop) : neD (.str a) (.str b) Q = Q (.bl (!decide (a = b))) := rfl
@[simp] theorem eqD_l (a : List D) (y : D) (Q : D → Prop) : eqD (.lst a) y Q = (pl 64 (.lst a) = true ∧ pl 64 y = true ∧ Q (.bl (eqb (.lst a) y))) := rfl
@[simp] theorem neD_l (a : List D) (y : D) (Q : D → Prop) : neD (.lst a) y Q = (pl 64 (.lst a) = true ∧ pl 64 y = true ∧ Q (.bl (!eqb (.lst a) y))) := rfl
@[simp] theorem eqD_t (a : List D) (y : D) (Q : D → Prop) : eqD (.tup a) y Q = (pl 64 (.tup a) = true ∧ pl 64 y = true ∧ Q (.bl (eqb (.tup a) y))) := rfl
@[simp] theorem neD_t (a : List D) (y : D) (Q : D → Prop) : neD (.tup a) y Q = (pl 64 (.tup a) = true ∧ pl 64 y = true ∧ Q (.bl (!eqb (.tup a) y))) := rfl
@[simp] theorem knInt : knownT "int" = true := by decide
@[simp] theorem knBool : knownT "bool" = true := by decide
@[simp] theorem knTup : knownT "tuple" = true := by decide
@[simp] theorem knList : knownT "list" = true := by decide
@[simp] theorem knStr : knownT "str" = true := by decide
@[simp] theorem knDict : knownT "dict" = true := by decide
@[simp] theorem eqb_int (i j : Int) : eqb (.int i) (.int j) = decide (i = j) := by simp [eqb, toPy, PyData.eqv, BEq.beq]
@[simp] theorem eqb_str (i j : Str) : eqb (.str i) (.str j) = decide (i = j) := by
  simp only [eqb, toPy, PyData.eqv]
  rw [Bool.eq_iff_iff]
  simp
@[simp] theorem eqb_nil : eqb (.lst []) (.lst []) = true := by decide +kernel
@[simp] theorem pl_int (n : Nat) (i : Int) : pl n (.int i) = true := by cases n <;> simp [pl]
@[simp] theorem pl_bl (n : Nat) (i : Bool) : pl n (.bl i) = true := by cases n <;> simp [pl]
@[simp] theorem pl_non (n : Nat) : pl n .non = true := by cases n <;> simp [pl]
@[simp] theorem eqD_i (i j : Int) (Q : D → Prop) : eqD (.int i) (.int j) Q = Q (.bl (decide (i = j))) := by
  show (pl 64 (.int i) = true ∧ pl 64 (.int j) = true ∧ Q (.bl (eqb (.int i) (.int j)))) = _
  simp
@[simp] theorem neD_i (i j : Int) (Q : D → Prop) : neD (.int i) (.int j) Q = Q (.bl (!decide (i = j))) := by
  show (pl 64 (.int i) = true ∧ pl 64 (.int j) = true ∧ Q (.bl (!eqb (.int i) (.int j)))) = _
  simp
@[simp] theorem ix_t3_0 (a b c : D) (Q : D → Prop) : ixD (.tup [a, b, c]) (.int 0) Q = Q a := by simp [ixD, atI, ixN]
@[simp] theorem ix_t3_1 (a b c : D) (Q : D → Prop) : ixD (.tup [a, b, c]) (.int 1) Q = Q b := by simp [ixD, atI, ixN]
@[simp] theorem ix_t3_2 (a b c : D) (Q : D → Prop) : ixD (.tup [a, b, c]) (.int 2) Q = Q c := by simp [ixD, atI, ixN]
@[simp] theorem lineLe (n : Nat) (h : n ≤ 1000 := by decide) : n ≤ sizeLine ↔ True := ⟨fun _ => trivial, fun _ => Nat.le_trans h (by decide)⟩
end ND

/-! ND12: own errors over Exception, with one field -/
namespace ND
open PySem PySem.Spec L2 Builtin Builtin.ObjectAttr
open PyProof.Rows (envOfC)

abbrev exT : List Value := [.type "Exception", .type "BaseException", .type "object"]
/-- what the written part says of an error's class nm, at C, whose __init__(self, fld) stores fld -/
structure ErC (K : PySem.W.Frag) (mg : Str → Option Value) (nm fld : Str) (C fI : Addr) : Prop where
  gC : mg nm = some (.ref C)
  ini : PySem.W.excInitIn K C exT "Exception.__new__" = true
  ovr : PySem.W.excOver K C exT = true
  tkr : PySem.W.takerIn K C fld = some none
  noN : PySem.W.findIn K (.ref C) fld = some none
  sa : PySem.W.findIn K (.ref C) "__setattr__" = some (some (.builtin "object.__setattr__"))
  iC : PySem.W.findIn K (.ref C) "__init__" = some (some (.ref fI))
  tC : PySem.W.typeIn K (.ref fI) = some (.type "function")
  kC : PySem.W.keepIn K (.ref C) = true
  exC : PySem.W.subIn K (.ref C) (.type "BaseException") = some true
  tyC : PySem.W.typeIn K (.ref C) = some (.type "type")
  hdC : PySem.W.hasDictIn K C = true
section
variable {prog : Program} {w : World} {A : Around} {E : Value → Shared → Prop} {R : Result → Shared → Prop} {hp : Heap} {g : Array GenState} {d : Drawn} {t : Nat} {os : OsState} {K : PySem.W.Frag} {mg : Str → Option Value} {nm fld : Str} {C fI : Addr}
theorem er_store {tk : Tok} {v : Value} {x t0 : Addr} (T : ErC K mg nm fld C fI) (X : K.In hp) (hx : hp.get? x = some (HandSPX.excO C t0))
    (hq : ∀ h' tk' dx, (∀ b o, b ≠ x → hp.get? b = some o → h'.get? b = some o) → hp.objs.size ≤ dx → dx ≠ x → h'.get? x = some { cls := .ref C, dict := some dx, data := .fields #[.ref t0, .none, .none, .none, .bool false, .none] } →
      h'.Ns1 dx (fun y => if y = fld then some v else none) → R (.ok (.ret .none)) ⟨h', g, d, tk', os⟩) :
    codeAny (model prog w) A (.call (.builtin "object.__setattr__") ⟨[.ref x, .str fld tk, v], []⟩) R ⟨hp, g, d, t, os⟩ := by
  obtain ⟨cd, hc, _⟩ := PySem.W.any_some T.ovr
  have hh : cd.hasDict = true := by
    have h1 := T.hdC
    unfold PySem.W.hasDictIn at h1
    rw [hc] at h1
    exact h1
  have other : x ≠ hp.objs.size := Nat.ne_of_lt (Heap.lt_size hx)
  refine PySem.W.osa_openX (s := ⟨hp, g, d, t, os⟩) F.store_Exception X (ox := HandSPX.excO C t0) (od := none) ⟨hx, rfl, rfl, trivial⟩ T.ovr T.tkr fun b => ?_
  have hcls : PySem.W.Looks (model prog w) hp (classData C) cd := PySem.W.looks_clsIn X hc
  obtain ⟨cn, bs, mro, ns, qn, hd, sn, sb, ab, col, del⟩ := cd
  dsimp only at hh
  subst hh
  show wpAny _ _ (storeInOwnDict (.ref x) (.ref C) (.str fld tk) fld v b) _ _ _
  unfold storeInOwnDict ownDictForStores
  repeat (first | with_reducible refine HandSPX.store_in_new ?_ ?_ | with_reducible refine wpAny_loadPart_at hx ?_ | with_reducible refine hcls.at ?_ | wp_step)
  · exact ⟨_, #[], _, (Heap.get?_update_ne _ _ _ _ other.symm).trans (Heap.get?_push_at rfl rfl), rfl, fun e he => absurd he (by simp), fun _ => rfl⟩
  · intro h' tk' named only
    have still : (hp.push { cls := .type "dict", data := .dict #[] }).get? x = some (HandSPX.excO C t0) := Heap.get?_push_of_some _ hx
    exact hq h' tk' hp.objs.size (fun b o hb ho => (only.2 b (Nat.ne_of_lt (Heap.lt_size ho))).trans ((Heap.get?_update_ne _ _ _ _ hb).trans (Heap.get?_push_of_some _ ho))) (Nat.le_refl _) other.symm ((only.2 x other).trans (Heap.get?_update_self _ still rfl)) named
/-- what is left of C(v): the error at e, its dict at dx -/
structure ErMade (h h' : Heap) (e C dx : Addr) (fld : Str) (v : Value) : Prop where
  keep : ∀ b o, h.get? b = some o → h'.get? b = some o
  new : h.objs.size ≤ e
  obj : ∃ oe vs, h'.get? e = some oe ∧ oe.cls = .ref C ∧ oe.dict = some dx ∧ oe.data = .fields vs ∧ vs[1]? = some .none
  big : h.objs.size ≤ dx
  ne : dx ≠ e
  ns : h'.Ns1 dx (fun y => if y = fld then some v else none)
/-- the text of __init__(self, fld): self.fld = fld -/
structure ErInit (K : PySem.W.Frag) (qual fld : Str) (st : Stmt) (fI : Addr) : Prop where
  fn : ∃ fd, Fun K "__init__" qual st fI fd
  body : ∃ q1 q2 q3 q4, defBody st = [.Assign [.Attribute (.Name "self" q1) fld q2] (.Name fld q3) q4]
  bind : ∀ (kV doc pm : Value) (an : Option Addr) (cdv ct a b : Value), bindArgs (PySem.W.fnOf "__init__" qual (defArgs st) (defBody st) (defScope st) .none kV doc pm an cdv ct) ⟨[a, b], []⟩ = pure [(("self" : Str), a), (fld, b)]
  kinds : ∀ a b : Value, ([(("self" : Str), a), (fld, b)].all fun y => (defScope st).names.lookup y.1 == some .local || (defScope st).names.lookup y.1 == some .cell) = true
  kSelf : ∀ L a cd, (envOfC qual (defScope st) L a cd).kindOf "self" = some .local
  kFld : ∀ L a cd, (envOfC qual (defScope st) L a cd).kindOf fld = some .local
  bSelf : ∀ L a cd (u v : Value), bindL (envOfC qual (defScope st) L a cd).kindOf [(("self" : Str), u), (fld, v)] (fun _ => none) "self" = some u
  bFld : ∀ L a cd (u v : Value), bindL (envOfC qual (defScope st) L a cd).kindOf [(("self" : Str), u), (fld, v)] (fun _ => none) fld = some v
  sc : (defScope st).kind = .function ∧ (defScope st).isGenerator = false ∧ (defScope st).isCoroutine = false
  nd : (fld == ("__debug__" : Str)) = false
theorem er_local {M : Model} {s : Shared} {env : Env} {x : Str} {pos : Pos} {v : Value} {m : Str → Option Value} {Q : Value → Shared → Prop} {A : Around} {E : Value → Shared → Prop} (hk : env.scope.kind = .function) (hl : env.kindOf x = some .local) (hn : s.heap.Ns env.locals m) (hv : m x = some v) (hd : (x == ("__debug__" : Str)) = false) (h : Q v s) :
    wpAny M A (eval (.Name x pos) env) Q E s := wpAny_Name (wpAny_loadName_local hk hl hn hv h) hd
theorem er_init {s : Shared} {x t0 : Addr} {v : Value} {qual : Str} {st : Stmt} (T : ErC K mg nm fld C fI) (N : ErInit K qual fld st fI) (X : K.In s.heap) (lim : s.heap.NoLimit) (hx : s.heap.get? x = some (HandSPX.excO C t0)) (room : A.depth < recursionLimit)
    (hq : ∀ h' tk dx, (∀ b o, b ≠ x → s.heap.get? b = some o → h'.get? b = some o) → s.heap.objs.size ≤ dx → dx ≠ x → h'.get? x = some { cls := .ref C, dict := some dx, data := .fields #[.ref t0, .none, .none, .none, .bool false, .none] } →
      h'.Ns1 dx (fun y => if y = fld then some v else none) → R (.ok (.ret .none)) { s with heap := h', toks := tk }) :
    codeAny (model prog w) A (.call (.ref fI) ⟨[.ref x, v], []⟩) R s := by
  obtain ⟨fd, oc, od, kV, doc, pm, an, cdv, ct, osl, rfl, here, code⟩ := N.fn.imp fun _ F => F.ex
  obtain ⟨q1, q2, q3, q4, text⟩ := N.body
  obtain ⟨sc1, sc2, sc3⟩ := N.sc
  refine Att.call_fn (binds := [(("self" : Str), .ref x), (fld, v)]) X lim here code room (BindsTo.of_eq (N.bind kV doc pm an cdv ct _ _)) (N.kinds _ _) (fun s₁ IC => ?_) sc3 sc2 sc1
  obtain ⟨h₁, tk₁, rfl⟩ := IC.toInCall.same
  have k : ∀ b o, s.heap.get? b = some o → h₁.get? b = some o := IC.toInCall.keep
  have names := IC.toInCall.ns
  have X₁ : K.In h₁ := X.keeps k
  have hx₁ := k _ _ hx
  rw [text]
  refine wpAny_execs_cons (plainObj_wpAny_Assign_Attribute ?_)
  refine er_local sc1 (N.kFld _ _ _) names (N.bFld _ _ _ _ _) N.nd (er_local sc1 (N.kSelf _ _ _) names (N.bSelf _ _ _ _ _) (by decide) ?_)
  refine PySem.W.set_plain X₁ (ox := HandSPX.excO C t0) (od := none) ⟨hx₁, rfl, rfl, trivial⟩ T.sa ?_
  refine er_store T X₁ hx₁ fun h₃ tk₃ dx k₃ dn dne hx₃ ns₃ => ?_
  have z : s.heap.objs.size < h₁.objs.size := names.lt
  exact wpAny_execs_nil (hq h₃ tk₃ dx (fun b o hb e => k₃ b o hb (k b o e)) (Nat.le_of_lt (Nat.lt_of_lt_of_le z dn)) dne hx₃ ns₃)
theorem er_made {s : Shared} {v : Value} {qual : Str} {st : Stmt} (T : ErC K mg nm fld C fI) (N : ErInit K qual fld st fI) (X : K.In s.heap) (lim : s.heap.NoLimit) (room : A.depth + 1 < recursionLimit)
    (hq : ∀ h' tk e dx, ErMade s.heap h' e C dx fld v → R (.ok (.ret (.ref e))) { s with heap := h', toks := tk }) : codeAny (model prog w) A (.call (.ref C) ⟨[v], []⟩) R s := by
  obtain ⟨hp, g, dr, tk, os⟩ := s
  obtain ⟨cn, Nn, qn, bs, bm, hdct, sn, sub, ab, col, dd, k0, k1, k2, k3, k5, hC, hbm⟩ := PySem.W.excInit_of X T.ini
  have k : ∀ b o, hp.get? b = some o → ((hp.push (PySem.W.kdv_tup [v])).push (HandSPX.excO C hp.objs.size)).get? b = some o := fun b o e => Heap.get?_push_of_some _ (Heap.get?_push_of_some _ e)
  have at_e : ((hp.push (PySem.W.kdv_tup [v])).push (HandSPX.excO C hp.objs.size)).get? (hp.objs.size + 1) = some (HandSPX.excO C hp.objs.size) := by heap_get
  refine HandSPX.call_own F.excBase_Exception hbm hC (PySem.W.looks_findIn X T.iC) (fun self => PySem.W.bind_fn X self T.tC) (by show 1 ≤ sizeLine; decide) ?_
  refine er_init (s := ⟨(hp.push (PySem.W.kdv_tup [v])).push (HandSPX.excO C hp.objs.size), g, dr, tk, os⟩) T N (X.keeps k) (lim.keeps k) at_e (by show A.depth + 1 < recursionLimit; exact room) fun h' tk' dx kept dn dne hx ns => ?_
  have z : hp.objs.size + 1 + 1 ≤ dx := by
    have q := dn
    rw [Heap.size_push, Heap.size_push] at q
    exact q
  exact ⟨rfl, hq h' tk' (hp.objs.size + 1) dx ⟨fun b o e => kept b o (Nat.ne_of_lt (Nat.lt_succ_of_lt (Heap.lt_size e))) (k b o e), Nat.le_succ _, ⟨_, _, hx, rfl, rfl, rfl, rfl⟩, Nat.le_trans (Nat.le_trans (Nat.le_succ _) (Nat.le_succ _)) z, dne, ns⟩⟩
end

/-! ### raising it -/
section
variable {B : Bs} {X : Cx} {C fI : Addr} {nm fld qual : Str} {st : Stmt} {a : Expr} {fa : GE} {p pos : Pos} {k : Nat} {R : Er → Prop} {E : XK}
theorem rel_one {v : V} {u : Value} (r : RelV v u) (f : Str) : RelO (List.lookup f [(fld, v)]) (if f = fld then some u else none) := by
  by_cases e : f = fld
  · subst e
    rw [if_pos rfl]
    simpa [List.lookup] using (show RelO (some v) (some u) from r)
  · rw [if_neg e]
    have b : (f == fld) = false := by simpa using e
    simp only [List.lookup, b]
    trivial
/-- nm(a) makes an error of the class at C, whose dict holds a's value -/
theorem pmk_er {t : TE} (T : ErC X.K X.mg nm fld C fI) (N : ErInit X.K qual fld st fI) (hr : Room k X.A) (ha : PE X a t) (hg : Gl X nm) (ndb : (nm == ("__debug__" : Str)) = false) (he : starEach (a :: []) X.env = (false, eval a X.env) :: starEach [] X.env := by rfl) (hpl : (backTo pos (starEach [] X.env)).any (·.1) = false := by rfl) :
    PMk X (.Call (.Name nm p) [a] [] pos) (fun σ H Q => t σ H fun v G => ∀ dx, G dx = none → Q (.ref C) (some dx) (upd G dx (.xd [(fld, v)]))) := fun pins s σ H Q I h => by
  refine wpAny_Call_Name_kw (ld_glob I hg T.gC (PySem.W.callWith_K (h₀ := X.base) I.ok.mod.kin T.kC (thn ((pa_cons ha pa_nil he).run pos pins s σ H (fun vs G => match vs with | [v] => ∀ dx, G dx = none → Q (.ref C) (some dx) (upd G dx (.xd [(fld, v)])) | _ => False) I h) fun us z ⟨vs, G, J, vals, q⟩ => ⟨J.kIn, ?_⟩) he hpl) ndb)
  match vs, vals, q with
  | [v], .cons (b := u) rv .nil, q =>
    have lim := J.nolimit
    obtain ⟨hp, g, dr, tk, os⟩ := z
    refine wpAny_call (er_made T N J.kIn lim (by have := hr.dp; omega) fun h' tk' e dx M => ?_)
    show MkP X pins σ Q (.ref e) ⟨h', g, dr, tk', os⟩
    obtain ⟨oe, fv, at_e, cls, dct, fields, ctx⟩ := M.obj
    obtain ⟨G', g1, g2⟩ := restrict h' fun b => decide (b ≠ e)
    have off : ∀ b, b ≠ e → G'.get? b = h'.get? b := fun b hb => g1 b (decide_eq_true hb)
    have gone : G'.get? e = none := g2 e (by simp)
    have old : ∀ b o, hp.get? b = some o → G'.get? b = some o := fun b o q => (off b (Nat.ne_of_lt (Nat.lt_of_lt_of_le (Heap.lt_size q) M.new))).trans (M.keep b o q)
    have ok : ObjOk X.prog X.w (upd G dx (.xd [(fld, v)])) G' dx (.xd [(fld, v)]) := ⟨_, M.ns.at (fun o q => (off dx M.ne).trans q), fun f => rel_one rv f⟩
    have J2 : Inv X pins σ (upd G dx (.xd [(fld, v)])) ⟨G', g, dr, tk', os⟩ := J.laid (t' := tk') old M.big ok
    refine ⟨e, oe, fv, ⟨G', g, dr, tk', os⟩, _, .ref C, some dx, rfl, J2, fun b o q => ?_, gone, at_e, ⟨cls, dct⟩, fields, ctx, ?_, rfl, J.bare, raises_own T.exC T.tyC, q dx (J.hok.fresh M.big)⟩
    · have hb : b ≠ e := fun z => by
        have q' : G'.get? b = some o := q
        rw [z, gone] at q'
        cases q'
      exact (off b hb).symm.trans q
    · rw [upd_ne (Ne.symm M.ne)]
      exact J.hok.fresh M.new
/-- raise nm(a) -/
@[simp] def gRaise (nm fld : Str) (fa : GE) (R : Er → Prop) (_ : Ed) (σ : List SV) : Prop := fa σ fun d => R ⟨nm, [(fld, d)]⟩
theorem sd_raise {pos2 : Pos} (hc : X.calm = true) (T : ErC X.K X.mg nm fld C fI) (N : ErInit X.K qual fld st fI) (hr : Room k X.A) (tk : Takes X (fun c o _ H => E c o H)) (hE : FinE B.W X.kn B.F B.H R E) (ha : ED B X a fa) (hg : Gl X nm := by rfl) (ndb : (nm == ("__debug__" : Str)) = false := by decide)
    (he : starEach (a :: []) X.env = (false, eval a X.env) :: starEach [] X.env := by rfl) (hpl : (backTo pos (starEach [] X.env)).any (·.1) = false := by rfl) : SD B X (.Raise (some (.Call (.Name nm p) [a] [] pos)) none pos2) (gRaise nm fld fa R) :=
  ⟨ps_imp (ps_raise hc tk (pmk_er T N hr ha.run hg ndb he hpl)) fun Dn s H ⟨σ, F, Ed, Rl, q, kk⟩ => ⟨σ, F, _, Rl, q, fun d qd F1 H1 v g1 d1 r1 dx hdx =>
    hE _ qd F1 _ (.ref C) (some dx) ((Rl.base.trans g1).trans (Grow.laid g1.fh hdx)) (d1.laid hdx) ⟨T.gC, fun _ => ⟨dx, [(fld, v)], rfl, upd_same, .cons r1 .nil⟩, fun z => nomatch z⟩⟩⟩
end
end ND

/-! ND13: try with several except clauses, named or not -/
namespace ND
open PySem PySem.Spec L2
open PyProof.Rows (envOfC)

/-- an exception that has landed at a, in the state s, to be handled -/
structure Air (X : Cx) (pins : List (Addr × Obj)) (a : Addr) (cls : Value) (d : Option Addr) (σ : L2.St) (H : Hp) (s : Shared) : Prop where
  fly : ∃ G, HandSPX.FlyingZ G (X.env :: X.outer) a (Zc cls d) s.heap ∧ (∀ h, G.StaysIn h → s.heap.UpToSlots h → Inv X pins σ H { s with heap := h }) ∧
    ∀ h (W : WX), HandSPX.HeldZ G (X.env :: X.outer) a (Zc cls d) X.env.locals h → s.heap.UpToSlots h → W cls d σ H → XE X W (.ref a) { s with heap := h }
  na : H a = none
  nL : a ≠ X.env.locals
  nF : a ∉ X.fs
section
variable {X : Cx} {pins : List (Addr × Obj)} {a : Addr} {cls : Value} {d : Option Addr} {σ : L2.St} {H : Hp} {s : Shared}
theorem Air.inv (q : Air X pins a cls d σ H s) : Inv X pins σ H s := by
  obtain ⟨G, fl, inv, _⟩ := q.fly
  exact inv s.heap fl.1 (Heap.UpToSlots.refl _)
theorem Air.again (q : Air X pins a cls d σ H s) {M : Model} {A : Around} {E : Value → Shared → Prop} {P : Unit → Shared → Prop} (h : ∀ t, Air X pins a cls d σ H t → P () t) : wpAny M A (setFlight (.ref a) none) P E s := by
  obtain ⟨G, fl, inv, out⟩ := q.fly
  exact HandSPX.lands_againZ fl fun h' fl' up => h _ ⟨⟨G, fl', fun h2 st up2 => inv h2 st (up.trans up2), fun h2 W hh up2 => out h2 W hh (up.trans up2)⟩, q.na, q.nL, q.nF⟩
theorem Air.suite (q : Air X pins a cls d σ H s) : ∃ oe, s.heap.get? a = some oe ∧ Zc cls d oe ∧ (∃ vs, oe.data = .fields vs) ∧ Inv (X.suite a ((a, oe) :: (X.pn ++ pins))) [] σ H s := by
  obtain ⟨G, fl, _, _⟩ := q.fly
  obtain ⟨oe, vs, at_a, zc, fields⟩ := fl.there
  exact ⟨oe, at_a, zc, ⟨vs, fields⟩, q.inv.suite at_a fields q.na q.nL q.nF⟩
/-- what the body lets out lands -/
theorem air_of {xe : Value → Shared → Prop} {W : WX} {u : Value} {P : Unit → Shared → Prop} {E : Value → Shared → Prop} (ok : X.Ok) (hs : X.stack = X.env :: X.outer) (hf : X.env.frame = some X.env.locals) (x : XE (X.tr (X.pn ++ pins) xe) W u s)
    (h : ∀ a cls d σ H t, u = .ref a → Air X pins a cls d σ H t → W cls d σ H → P () t) : wpAny (model X.prog X.w) X.A (noteFrame u X.env) (fun _ s₂ => wpAny (model X.prog X.w) X.A (setFlight u none) P E s₂) E s := by
  obtain ⟨a, G, sI, _, σ, H, cls, d, rfl, J', nb, up, sky, na, os, ag, w⟩ := x
  have J : Inv X pins σ H sI := J'.ofTry ok
  have frames : X.A.frames = some (X.env :: X.outer) := by rw [ok.frames, hs]
  refine Sky.land Zc.steady frames hf (by rw [← hs]; exact sky) fun h3 fl up3 => h a cls d σ H _ rfl ⟨⟨G, fl, fun h2 st up2 => J.landed nb st ((up.trans up3).trans up2) os ag, fun h2 V hh up2 v => ?_⟩, na, ?_, ?_⟩ w
  · exact ⟨a, G, sI, pins, σ, H, cls, d, rfl, J, nb, (up.trans up3).trans up2, .inr (.inr (by rw [hs]; exact hh)), na, os, ag, v⟩
  all_goals
    obtain ⟨oe, vs, at_a, _, fields⟩ := fl.there
    have out : a ∉ frs (X.env :: X.outer) := fun hm => by
      obtain ⟨_, o', e', no⟩ := fl.2.2.1.mem hm
      rw [at_a] at e'
      cases e'
      exact no _ fields
  · exact fun z => out (List.mem_filterMap.mpr ⟨X.env, List.mem_cons_self, by rw [hf, z]⟩)
  · intro hm
    obtain ⟨e, he, q⟩ := List.mem_filterMap.mp hm
    exact out (List.mem_filterMap.mpr ⟨e, List.mem_cons_of_mem _ he, q⟩)
/-- no clause is left -/
theorem Air.pass {Wout : WX} {P : Flow → Shared → Prop} (q : Air X pins a cls d σ H s) (hf : X.env.frame = some X.env.locals) (tk : Takes X Wout) (w : Wout cls d σ H) : wpAny (model X.prog X.w) X.A (handleBy (.ref a) X.env []) P X.xe s := by
  obtain ⟨G, fl, _, out⟩ := q.fly
  refine wpAny_handleBy_nil ?_
  obtain ⟨_, _, _, oe, vs, T, oT, ts, at_a, zc, fields, trace, _⟩ := id fl
  unfold PySem.passOn
  refine wpAny_bind (wpAny_field at_a fields trace ?_)
  rw [if_neg (show ¬ ((Value.ref T == Value.none) = true) from by simp)]
  have fin : wpAny (model X.prog X.w) X.A (setFlight (.ref a) X.env.frame) (fun _ s4 => wpAny (model X.prog X.w) X.A (throw (.ref a) : Sem Flow) P X.xe s4) X.xe s := by
    rw [hf]
    exact HandSPX.setFlight_upZ fl fun h4 hh up => wpAny_throw (tk _ _ (out h4 Wout hh up w))
  first
    | exact wpAny_bind (wpAny_pure (wpAny_bind fin))
    | exact wpAny_bind fin
end

/-- an except clause: its class, the slot of its name, what its suite asks -/
structure Hdl where
  c : Value
  slot : Option Nat
  ts : Addr → Value → Option Addr → TS
def goneD (D : Ends) (i : Nat) : Ends := { nx := fun σ H => D.nx (σ.set i none) H, rt := D.rt, bk := fun σ H => D.bk (σ.set i none) H, ct := fun σ H => D.ct (σ.set i none) H }
def Hdl.take (h : Hdl) (D : Ends) (a : Addr) (cls : Value) (d : Option Addr) (σ : L2.St) (H : Hp) : Prop := match h.slot with
  | none => h.ts a cls d D σ H
  | some i => h.ts a cls d (goneD D i) (σ.set i (some (.ref a))) H
def wH (K : PySem.W.Frag) (Wout : WX) (D : Ends) : List Hdl → WX
  | [] => Wout
  | h :: r => fun cls d σ H => ∃ b, PySem.W.exmOne K cls h.c = some b ∧ (b = true → ∀ a, H a = none → h.take D a cls d σ H) ∧ (b = false → wH K Wout D r cls d σ H)
inductive HdlsOk (X : Cx) : List ExceptHandler → List Hdl → Prop
  | nil : HdlsOk X [] []
  | plain {x : Str} {c : Value} {ts : Addr → Value → Option Addr → TS} {b₀ : Stmt} {suite : List Stmt} {np pos' : Pos} {hs : List ExceptHandler} {l : List Hdl} (hc : Names X x c)
      (body : ∀ (a : Addr) (oe : Obj) (cls : Value) (d : Option Addr) (pn : List (Addr × Obj)), Zc cls d oe → (∃ vs, oe.data = .fields vs) → PSs (X.suite a ((a, oe) :: pn)) (b₀ :: suite) (ts a cls d)) (r : HdlsOk X hs l) :
      HdlsOk X (.ExceptHandler (some (.Name x np)) none (b₀ :: suite) pos' :: hs) (⟨c, none, ts⟩ :: l)
  | named {x n : Str} {i : Nat} {c : Value} {ts : Addr → Value → Option Addr → TS} {b₀ : Stmt} {suite : List Stmt} {np pos' : Pos} {hs : List ExceptHandler} {l : List Hdl} (hc : Names X x c) (hi : X.N[i]? = some n) (hl : X.env.kindOf n = some .local)
      (body : ∀ (a : Addr) (oe : Obj) (cls : Value) (d : Option Addr) (pn : List (Addr × Obj)), Zc cls d oe → (∃ vs, oe.data = .fields vs) → PSs (X.suite a ((a, oe) :: pn)) (b₀ :: suite) (ts a cls d)) (r : HdlsOk X hs l) :
      HdlsOk X (.ExceptHandler (some (.Name x np)) (some n) (b₀ :: suite) pos' :: hs) (⟨c, some i, ts⟩ :: l)
section
variable {X : Cx} {pins : List (Addr × Obj)} {a : Addr} {cls : Value} {d : Option Addr} {σ : L2.St} {H : Hp} {s : Shared} {D : Ends} {Wout : WX}
/-- the test of a clause -/
theorem Air.test {x : Str} {c : Value} {np : Pos} {b : Bool} {P : Bool → Shared → Prop} {E E' : Value → Shared → Prop} (q : Air X pins a cls d σ H s) (hc : Names X x c) (hb : PySem.W.exmOne X.K cls c = some b) (h : P b s) :
    wpAny (model X.prog X.w) (X.A.mark (some (.ref a))) (eval (.Name x np) X.env) (fun c s₁ => wpAny (model X.prog X.w) (X.A.mark (some (.ref a))) (excMatches (.ref a) c) P E s₁) E' s := by
  obtain ⟨oe, at_a, zc, _, S⟩ := q.suite
  have LT : PySem.W.Looks (model X.prog X.w) s.heap (typeOf (.ref a)) cls := fun A Q E s k q => wpAny_typeOf_ref (k _ _ at_a) (by rw [zc.1]; exact q)
  have LM := PySem.W.exm_one (M := model X.prog X.w) q.inv.kIn LT hb
  obtain ⟨glob, ndb, isOwn | ⟨no, isB, nn⟩⟩ := hc
  · exact ld_glob (X := X.suite a ((a, oe) :: (X.pn ++ pins))) S glob isOwn (LM.here h) ndb
  · exact ld_blt (X := X.suite a ((a, oe) :: (X.pn ++ pins))) S glob no isB (LM.here h) nn ndb
theorem Air.by {hs : List ExceptHandler} {l : List Hdl} (hN : X.N.Nodup) (hf : X.env.frame = some X.env.locals) (tk : Takes X Wout) (q : Air X pins a cls d σ H s) (ok : HdlsOk X hs l) (w : wH X.K Wout D l cls d σ H) : wpAny (model X.prog X.w) X.A (handleBy (.ref a) X.env hs) (SP X pins D) X.xe s := by
  induction ok with
  | nil => exact q.pass hf tk w
  | plain hc body r ih =>
    obtain ⟨b, hb, yes, no⟩ := w
    refine wpAny_handleBy_cons (codeAny_handlers_test (q.test hc hb ?_)) (by intro z; cases z)
    cases b with
    | false => exact ih (no rfl)
    | true =>
      refine codeAny_handlers_suite (q.again fun t qt => ?_)
      obtain ⟨oe, at_a, zc, fields, S⟩ := qt.suite
      refine wpAny_mono ((body a oe cls d (X.pn ++ pins) zc fields).run [] t σ H _ S (yes rfl a q.na)) (fun f s6 h => ?_) fun _ _ z => z.elim
      cases f <;> first
        | (obtain ⟨v, _, _, S6, r6, q6⟩ := h; exact ⟨_, _, _, S6.unsuite q.inv.ok, r6, q6⟩)
        | (obtain ⟨_, _, S6, q6⟩ := h; exact ⟨_, _, S6.unsuite q.inv.ok, q6⟩)
  | @named x n i c ts b₀ suite np pos' hs l hc hi hl body r ih =>
    obtain ⟨b, hb, yes, no⟩ := w
    refine wpAny_handleBy_cons (codeAny_handlers_test (q.test hc hb ?_)) (by intro z; cases z)
    cases b with
    | false => exact ih (no rfl)
    | true =>
      refine codeAny_handlers_suite_as (q.again fun t qt => ?_)
      obtain ⟨oe, at_a, zc, fields, S⟩ := qt.suite
      refine store_ok (X := X.suite a ((a, oe) :: (X.pn ++ pins))) (v := .ref a) S hN hi (.inl hl) rfl (fun s5 S5 => ?_) (.inr hl)
      refine wpAny_mono ((body a oe cls d (X.pn ++ pins) zc fields).run [] s5 _ H _ S5 (yes rfl a q.na)) (fun f s6 h => ?_) fun _ _ z => z.elim
      have fin : ∀ {σ6 : L2.St} {H6 : Hp} {P : Shared → Prop}, Inv (X.suite a ((a, oe) :: (X.pn ++ pins))) [] σ6 H6 s6 → (∀ s7, Inv X pins (σ6.set i none) H6 s7 → P s7) → wpAny (model X.prog X.w) X.A (do bindName X.env n .none; unbindBehindTheSuite X.env n pos') (fun _ s7 => P s7) X.xe s6 :=
        fun {σ6 H6 P} S6 hp => gone_ok (S6.unsuite q.inv.ok) hN hi hl hp
      cases f <;> first
        | (obtain ⟨v, _, _, S6, r6, q6⟩ := h; exact fin S6 fun s7 J7 => ⟨_, _, _, J7, r6, q6⟩)
        | (obtain ⟨_, _, S6, q6⟩ := h; exact fin S6 fun s7 J7 => ⟨_, _, J7, q6⟩)
theorem ps_try_h {body : List Stmt} {h₀ : ExceptHandler} {hs : List ExceptHandler} {l : List Hdl} {tb : WX → TS} {pos : Pos} (hst : X.stack = X.env :: X.outer) (hf : X.env.frame = some X.env.locals) (hN : X.N.Nodup) (tk : Takes X Wout)
    (hb : ∀ (W : WX) (pn : List (Addr × Obj)) (xe : Value → Shared → Prop), Takes (X.tr pn xe) W → PassesOwn (model X.prog X.w) X.A X.env xe → PSs (X.tr pn xe) body (tb W)) (hh : HdlsOk X (h₀ :: hs) l) :
    PS X (.Try body (h₀ :: hs) [] [] pos) (fun D σ H => tb (wH X.K Wout D l) D σ H) :=
  ⟨fun pins s σ H D I h => by
    refine wpAny_Try_except (wpAny_mono ((hb (wH X.K Wout D l) (X.pn ++ pins) _ (fun u s' x => ?_) PassesOwn.looking).run [] s σ H D (I.toTry _) h) (fun f s1 r => ?_) fun _ _ e => e)
    · exact air_of I.ok hst hf x fun a cls d σ' H' t e q w => by
        subst e
        exact q.by hN hf tk hh w
    · cases f with
      | next =>
        obtain ⟨σ', H', J, q⟩ := r
        exact wpAny_execs_nil ⟨σ', H', J.ofTry I.ok, q⟩
      | brk =>
        obtain ⟨σ', H', J, q⟩ := r
        exact ⟨σ', H', J.ofTry I.ok, q⟩
      | cont =>
        obtain ⟨σ', H', J, q⟩ := r
        exact ⟨σ', H', J.ofTry I.ok, q⟩
      | ret u =>
        obtain ⟨v, σ', H', J, rv, q⟩ := r
        exact ⟨v, σ', H', J.ofTry I.ok, rv, q⟩⟩
end
end ND

/-! ND14: try by data (clauses that end with return) -/
namespace ND
open PySem PySem.Spec L2
open PyProof.Rows (envOfC)

theorem xd_notW {W : WT} {F H : Hp} {dx : Addr} {vs : List (Str × V)} (dk : DeckIn W F H) (e : H dx = some (.xd vs)) : ¬ InW W dx := fun z => by
  rcases z with ⟨pp, ep, o⟩ | ⟨x, hx, rfl⟩
  · obtain ⟨ns, m, n, h1, h2, _⟩ := (dk.dk _ ep).st
    rcases o with o | o <;> subst o
    · rw [h1] at e
      cases e
    · rw [h2] at e
      cases e
  · obtain ⟨ps, h1, _⟩ := dk.tb x hx
    rw [h1] at e
    cases e
theorem Rel.rebase {B : Bs} {F0 H0 : Hp} {K : Kn} {σ : List SV} {s : L2.St} {F H : Hp} (g : Grow B.W B.F B.H F0 H0) (b : DeckIn B.W B.F B.H) (R : Rel ⟨B.W, F0, H0⟩ K σ s F H) : Rel B K σ s F H := by
  obtain ⟨own, O, q⟩ := R.slots
  exact ⟨g.trans R.base, b, R.deck, R.len, own, ⟨O.inj, fun i a e => ⟨g.back (O.free i a e).1, (O.free i a e).2⟩⟩, q⟩
theorem rel_no {W : WT} {K : Kn} {F H : Hp} (e : Same F H) (dk : DeckIn W F H) (s : L2.St) : Rel ⟨W, F, H⟩ K (List.replicate s.length .no) s F H :=
  ⟨Grow.refl e, dk, dk, by simp, fun _ => none, ⟨fun _ _ _ z => (nomatch z), fun _ _ z => (nomatch z)⟩, fun i x v e1 _ => by
    have := List.eq_of_mem_replicate (List.mem_of_getElem? e1)
    subst this
    exact True.intro⟩
/-- the error er, of the class cls, its dict d, as it stands where a clause begins -/
structure ErAt (K : Kn) (W : WT) (F H : Hp) (cls : Value) (d : Option Addr) (er : Er) : Prop where
  ex : Same F H
  dk : DeckIn W F H
  rep : RepEr K F H cls d er
/-- a clause by data: its class's name, the slot of its name, its suite's reading -/
structure Cls3 where
  nm : Str
  slot : Option Nat
  g : Er → Addr → GS
def clauseStart (n : Nat) (a : Addr) : Option Nat → List SV
  | none => List.replicate n .no
  | some i => (List.replicate n .no).set i (.d (.opq (.ref a)))
def tsH (B : Bs) (K : Kn) (g : Er → Addr → GS) (a : Addr) (cls : Value) (d : Option Addr) : TS := fun Dn s H => ∃ F0 H0 er, ErAt K B.W F0 H0 cls d er ∧ LS ⟨B.W, F0, H0⟩ K (g er a) Dn s H
inductive ClausesOk (B : Bs) (X : Cx) : List ExceptHandler → List Cls3 → List Hdl → Prop
  | nil : ClausesOk B X [] [] []
  | plain {x : Str} {cv : Value} {g : Er → Addr → GS} {b₀ : Stmt} {suite : List Stmt} {np pos' : Pos} {hs : List ExceptHandler} {l : List Cls3} {l' : List Hdl} (hg : Gl X x) (nd : (x == ("__debug__" : Str)) = false) (hm : X.mg x = some cv)
      (body : ∀ (a : Addr) (oe : Obj) (cls : Value) (d : Option Addr) (pn : List (Addr × Obj)) (F0 H0 : Hp) (er : Er), Zc cls d oe → (∃ vs, oe.data = .fields vs) → ErAt X.kn B.W F0 H0 cls d er → SDs ⟨B.W, F0, H0⟩ (X.suite a ((a, oe) :: pn)) (b₀ :: suite) (g er a)) (r : ClausesOk B X hs l l') :
      ClausesOk B X (.ExceptHandler (some (.Name x np)) none (b₀ :: suite) pos' :: hs) (⟨x, none, g⟩ :: l) (⟨cv, none, fun a cls d => tsH B X.kn g a cls d⟩ :: l')
  | named {x n : Str} {i : Nat} {cv : Value} {g : Er → Addr → GS} {b₀ : Stmt} {suite : List Stmt} {np pos' : Pos} {hs : List ExceptHandler} {l : List Cls3} {l' : List Hdl} (hg : Gl X x) (nd : (x == ("__debug__" : Str)) = false) (hm : X.mg x = some cv) (hi : X.N[i]? = some n) (hl : X.env.kindOf n = some .local)
      (body : ∀ (a : Addr) (oe : Obj) (cls : Value) (d : Option Addr) (pn : List (Addr × Obj)) (F0 H0 : Hp) (er : Er), Zc cls d oe → (∃ vs, oe.data = .fields vs) → ErAt X.kn B.W F0 H0 cls d er → SDs ⟨B.W, F0, H0⟩ (X.suite a ((a, oe) :: pn)) (b₀ :: suite) (g er a)) (r : ClausesOk B X hs l l') :
      ClausesOk B X (.ExceptHandler (some (.Name x np)) (some n) (b₀ :: suite) pos' :: hs) (⟨x, some i, g⟩ :: l) (⟨cv, some i, fun a cls d => tsH B X.kn g a cls d⟩ :: l')
/-- the classes' relations -/
def ClsTab (K : Kn) (M : Str → Str → Option Bool) : Prop := ∀ x y b u v, M x y = some b → K.mg x = some u → K.mg y = some v → PySem.W.exmOne K.K u v = some b
section
variable {B : Bs} {X : Cx} {M : Str → Str → Option Bool}
theorem pss_er {X' : Cx} {sts : List Stmt} {g : Er → Addr → GS} {a : Addr} {cls : Value} {d : Option Addr} {K : Kn} (hk : X'.kn = K) (h : ∀ F0 H0 er, ErAt K B.W F0 H0 cls d er → SDs ⟨B.W, F0, H0⟩ X' sts (g er a)) : PSs X' sts (tsH B K g a cls d) :=
  ⟨fun pins s σ H Dn I ⟨F0, H0, er, at_, q⟩ => (h F0 H0 er at_).run.run pins s σ H Dn I (by rw [hk]; exact q)⟩
theorem ClausesOk.hdls {hs : List ExceptHandler} {l : List Cls3} {l' : List Hdl} (ok : ClausesOk B X hs l l') : HdlsOk X hs l' := by
  induction ok with
  | nil => exact .nil
  | plain hg nd hm body r ih => exact .plain ⟨hg, nd, .inl hm⟩ (fun a oe cls d pn zc fs => pss_er rfl fun F0 H0 er z => body a oe cls d pn F0 H0 er zc fs z) ih
  | named hg nd hm hi hl body r ih => exact .named ⟨hg, nd, .inl hm⟩ hi hl (fun a oe cls d pn zc fs => pss_er rfl fun F0 H0 er z => body a oe cls d pn F0 H0 er zc fs z) ih
end
/-! ### within a clause: the error's field -/
/-- what the written part says of a class whose errors' fields are read -/
structure ErGet (K : PySem.W.Frag) (C : Addr) (fld : Str) : Prop where
  ga : PySem.W.findIn K (.ref C) "__getattribute__" = some (some (.builtin "BaseException.__getattribute__"))
  gg : PySem.W.findIn K (.ref C) "__getattr__" = some none
  exC : PySem.W.subIn K (.ref C) (.type "BaseException") = some true
  hdC : PySem.W.hasDictIn K C = true
  noN : PySem.W.findIn K (.ref C) fld = some none
/-- the classes nm of which known is true may be asked for fld -/
def GetTab (K : Kn) (known : Str → Bool) (fld : Str) : Prop := ∀ nm, known nm = true → ∃ C, K.mg nm = some (.ref C) ∧ ErGet K.K C fld
def gErF (known : Str → Bool) (fld : Str) (i : Nat) (er : Er) (a : Addr) (σ : List SV) (Q : D → Prop) : Prop := σ[i]? = some (.d (.opq (.ref a))) ∧ known er.nm = true ∧ ∃ x, er.fs.lookup fld = some x ∧ Q x
theorem repFs_look {K : Kn} {F : Hp} {f : Str} {x : D} : ∀ {vs : List (Str × V)} {ds : List (Str × D)}, RepFs K F vs ds → ds.lookup f = some x → ∃ v, vs.lookup f = some v ∧ Rep K F v x
  | _, _, .nil, h => by simp at h
  | (k, v) :: vs, (_, d) :: ds, .cons r t, h => by
    rw [List.lookup_cons] at h ⊢
    cases e : f == k with
    | true =>
      rw [e] at h
      cases h
      exact ⟨v, rfl, r⟩
    | false =>
      rw [e] at h
      exact repFs_look t h
section
variable {X : Cx} {W : WT} {F0 H0 : Hp} {cls : Value} {d : Option Addr} {er : Er} {a : Addr} {oe : Obj} {pn : List (Addr × Obj)} {known : Str → Bool} {fld x : Str} {i : Nat} {pos p : Pos}
theorem ed_erF (at_ : ErAt X.kn W F0 H0 cls d er) (zc : Zc cls d oe) (fields : ∃ vs, oe.data = .fields vs) (G : GetTab X.kn known fld) (he : PE (X.suite a ((a, oe) :: pn)) (.Name x p) (tVar i)) (hb : attributeBase (.Name x p) fld X.env (eval (.Name x p) X.env) = eval (.Name x p) X.env := by rfl) :
    ED ⟨W, F0, H0⟩ (X.suite a ((a, oe) :: pn)) (.Attribute (.Name x p) fld pos) (gErF known fld i er a) :=
  ⟨⟨fun pins s σ H Q I ⟨σd, F, Qd, R, ⟨sl, kn, y, hy, q⟩, k⟩ => by
    obtain ⟨C, gC, T⟩ := G _ kn
    obtain ⟨eC, hf, _⟩ := at_.rep
    have ec : cls = .ref C := Option.some.inj (eC.symm.trans gC)
    subst ec
    have ne : er.fs ≠ [] := fun z => by
      rw [z] at hy
      cases hy
    obtain ⟨dx, vs, rfl, at_dx, rf⟩ := hf ne
    obtain ⟨v, hv, rv⟩ := repFs_look rf hy
    obtain ⟨w0, hs, rw0⟩ := R.dat sl
    cases rw0
    have notW : ¬ InW W dx := xd_notW at_.dk at_dx
    refine attr_of hb (thn (he.run pins s σ H (fun w G1 => w = .ref a ∧ G1 = H) I ⟨_, hs, rfl, rfl⟩) fun u s1 ⟨w, H1, I1, rx, ew, eH⟩ => ?_)
    subst ew eH
    obtain rfl : u = Value.ref a := rx
    have st : H1 dx = some (.xd vs) := R.base.hh dx _ at_dx notW (by intro _ z; cases z)
    obtain ⟨held, _⟩ := I1.pin (a, oe) (List.mem_append_left _ List.mem_cons_self)
    obtain ⟨fv, hd⟩ := fields
    obtain ⟨mA, hns, hr⟩ := (show ObjOk X.prog X.w H1 s1.heap dx (.xd vs) from I1.hok dx _ st)
    obtain ⟨od, ho, hl⟩ := lookIn_ns hns
    obtain ⟨u, hu, ru⟩ := RelO.some_of (v := v) (o := mA fld) (by rw [← hv]; exact hr fld)
    have J : PySem.W.InstAt s1.heap a oe C (some od) := ⟨held, zc.1, by unfold PySem.W.notCls; rw [hd] <;> rfl, by rw [zc.2]; exact ho⟩
    exact HandSPX.exc_get I1.kIn J T.ga T.gg T.exC (PySem.W.findObj_own T.hdC T.noN rfl (by rw [hl, hu])) (handed_of ru) ⟨v, H1, I1.tok _, ru, k _ q F H1 v (Grow.refl R.ex) R.deck (rv.mono R.base.ff)⟩⟩⟩
end
end ND

/-! ND15: isinstance of a caught error that has a dict -/
namespace ND
open PySem PySem.Spec PySem.W PySem.Calls PyProof.Rows
section
variable {prog : Program} {w : World} {A : Around} {E : Value → Shared → Prop} {K : Frag} {x D : Addr} {ox : Obj} {od : Option Obj}
end
end ND

namespace ND
open PySem PySem.Spec L2
open PyProof.Rows (envOfC)
section
variable {X : Cx} {W : WT} {F0 H0 : Hp} {cls : Value} {d : Option Addr} {er : Er} {a : Addr} {oe : Obj} {pn : List (Addr × Obj)} {M : Str → Str → Option Bool} {x c : Str} {i : Nat} {pos p p2 p3 : Pos}
end
end ND

/-! ND16: more built-in functions: sum, all, any, tuple, list, sorted, str -/
namespace ND
open PySem PySem.Spec L2
open PyProof.Rows (envOfC)
section
variable {prog : Program} {w : World} {A : Around} {E : Value → Shared → Prop} {s : Shared} {l : Addr} {its : List Value} {ns : List Int} {Q : Value → Shared → Prop}
theorem sum_tup (quiet : A.handled = none) (isT : s.heap.IsTuple l its.toArray) (areInts : PyProof.Rows.IntsAre its ns)
    (done : ∀ h' tk t', (∀ b o, s.heap.get? b = some o → h'.get? b = some o) → Q (.int ns.sum t') { s with heap := h', toks := tk }) : wpAny (model prog w) A (call (.builtin "sum") [.ref l]) Q E s := by
  obtain ⟨xs, e⟩ := areInts.allInts.items
  have nums : numsOf (intItems xs).toList = ns := by rw [← e]; exact areInts.numsOf
  rw [nums_intItems] at nums
  rw [e] at isT
  have small : l < s.heap.objs.size := by
    obtain ⟨_, at_l, _⟩ := isT
    exact Heap.lt_size at_l
  refine call_sum_walkG (wpAny_pyIter_tuple isT ?_)
  refine ⟨s.heap.objs.size, [s.heap.objs.size, l], [s.heap.objs.size], _, _, _, numAt xs, rfl, Walks.tuple (A := A.in1) quiet _ l (Nat.ne_of_lt small) (intItems xs), ⟨⟨_, Heap.get?_push_size _ rfl, rfl, rfl⟩, isT.push _⟩, fun b hb => ?_, (fun _ _ => intItems_at), fun h' tk t' hk => ?_⟩
  · show b < (s.heap.push _).objs.size
    rw [Heap.size_push]
    rcases List.mem_cons.mp hb with rfl | hb
    · exact Nat.lt_succ_self _
    · rw [List.mem_singleton.mp hb]
      exact Nat.lt_succ_of_lt small
  · have z := done h' tk t' fun b o eb => hk b o (fun m => absurd (Heap.lt_size eb) (List.mem_singleton.mp m ▸ Nat.lt_irrefl _)) (Heap.get?_push_of_some _ eb)
    have total : preSum (numAt xs) (intItems xs).size = ns.sum := by
      rw [preSum_eq, List.take_of_length_le (by simp [intItems]), nums]
    rw [total]
    exact z
end
section
variable {B : Bs} {X : Cx}
theorem cr_sumT (hc : X.calm = true) : CallR X (.builtin "sum") (fun vs H Q => ∃ (a : Addr) (ns : List Int), vs = [V.ref a] ∧ SqT X.K H a (ns.map V.int) ∧ Q (.int ns.sum) H) := fun pins s σ H vs us Q I r ⟨a, ns, ev, st, q⟩ => by
  subst ev
  obtain ⟨its, rv, isT, _⟩ := I.tuple st
  rw [Vals.ref1 r]
  exact sum_tup (I.ok.hd hc) (show s.heap.IsTuple _ its.toArray from isT) rv.ints fun h' tk t' kept => ⟨.int _, H, I.kept kept, ⟨_, rfl⟩, q⟩
/-- the integers of a list of data -/
def intsOf : List D → Option (List Int)
  | [] => some []
  | .int i :: r => (intsOf r).map (i :: ·)
  | _ :: _ => none
theorem intsOf_map : ∀ {ds : List D} {ns : List Int}, intsOf ds = some ns → ds = ns.map D.int
  | [], ns, h => by
    cases h
    rfl
  | .int i :: r, ns, h => by
    simp only [intsOf, Option.map_eq_some_iff] at h
    obtain ⟨m, h1, rfl⟩ := h
    rw [intsOf_map h1]
    rfl
@[simp] theorem intsOf_ints : ∀ ns : List Int, intsOf (ns.map D.int) = some ns
  | [] => rfl
  | n :: ns => by simp [intsOf, intsOf_ints ns]
theorem reps_of_ints {K : Kn} {F : Hp} : ∀ {vs : List V} {ns : List Int}, Reps K F vs (ns.map D.int) → vs = ns.map V.int
  | _, [], .nil => rfl
  | _, n :: ns, .cons (.int _) t => by rw [List.map_cons, reps_of_ints t]
def sumD : List D → (D → Prop) → Prop
  | [.lst xs], Q => ∃ ns, intsOf xs = some ns ∧ Q (.int ns.sum)
  | [.tup xs], Q => ∃ ns, intsOf xs = some ns ∧ Q (.int ns.sum)
  | _, _ => False
theorem c_sum (hc : X.calm = true) : CallR X (.builtin "sum") (LCa B X.kn sumD) := callR_by fun vs H Q ⟨F, ds, Qd, e, dk, r, q, k⟩ => by
  unfold sumD at q
  split at q
  · obtain ⟨v, rfl, r1⟩ := rb1 r
    obtain ⟨ns, h1, h2⟩ := q
    obtain ⟨a, us, rfl, st, rs⟩ := r1.lst e
    rw [intsOf_map h1] at rs
    rw [reps_of_ints rs] at st
    exact ⟨_, cr_sum hc, a, ns, rfl, SqL.of st, k.here e dk h2 (.int _)⟩
  · obtain ⟨v, rfl, r1⟩ := rb1 r
    obtain ⟨ns, h1, h2⟩ := q
    obtain ⟨a, us, rfl, _, st, rs⟩ := r1.tup e
    rw [intsOf_map h1] at rs
    rw [reps_of_ints rs] at st
    exact ⟨_, cr_sumT hc, a, ns, rfl, st, k.here e dk h2 (.int _)⟩
  · exact q.elim
/-- the bools of a list of data -/
def blsOf : List D → Option (List Bool)
  | [] => some []
  | .bl i :: r => (blsOf r).map (i :: ·)
  | _ :: _ => none
theorem blsOf_map : ∀ {ds : List D} {ns : List Bool}, blsOf ds = some ns → ds = ns.map D.bl
  | [], ns, h => by
    cases h
    rfl
  | .bl i :: r, ns, h => by
    simp only [blsOf, Option.map_eq_some_iff] at h
    obtain ⟨m, h1, rfl⟩ := h
    rw [blsOf_map h1]
    rfl
@[simp] theorem blsOf_bls : ∀ ns : List Bool, blsOf (ns.map D.bl) = some ns
  | [] => rfl
  | n :: ns => by simp [blsOf, blsOf_bls ns]
theorem reps_of_bls {K : Kn} {F : Hp} : ∀ {vs : List V} {ns : List Bool}, Reps K F vs (ns.map D.bl) → vs = ns.map V.bl
  | _, [], .nil => rfl
  | _, n :: ns, .cons (.bl _) t => by rw [List.map_cons, reps_of_bls t]
def allD : List D → (D → Prop) → Prop
  | [.lst xs], Q => ∃ bs, blsOf xs = some bs ∧ Q (.bl (bs.all id))
  | _, _ => False
def anyD : List D → (D → Prop) → Prop
  | [.lst xs], Q => ∃ bs, blsOf xs = some bs ∧ Q (.bl (bs.any id))
  | _, _ => False
theorem c_all (hc : X.calm = true) : CallR X (.builtin "all") (LCa B X.kn allD) := callR_by fun vs H Q ⟨F, ds, Qd, e, dk, r, q, k⟩ => by
  unfold allD at q
  split at q
  · obtain ⟨v, rfl, r1⟩ := rb1 r
    obtain ⟨bs, h1, h2⟩ := q
    obtain ⟨a, us, rfl, st, rs⟩ := r1.lst e
    rw [blsOf_map h1] at rs
    rw [reps_of_bls rs] at st
    exact ⟨_, cr_all hc, a, bs, rfl, SqL.of st, k.here e dk h2 (.bl _)⟩
  · exact q.elim
theorem c_any (hc : X.calm = true) : CallR X (.builtin "any") (LCa B X.kn anyD) := callR_by fun vs H Q ⟨F, ds, Qd, e, dk, r, q, k⟩ => by
  unfold anyD at q
  split at q
  · obtain ⟨v, rfl, r1⟩ := rb1 r
    obtain ⟨bs, h1, h2⟩ := q
    obtain ⟨a, us, rfl, st, rs⟩ := r1.lst e
    rw [blsOf_map h1] at rs
    rw [reps_of_bls rs] at st
    exact ⟨_, cr_any hc, a, bs, rfl, SqL.of st, k.here e dk h2 (.bl _)⟩
  · exact q.elim
def tupleD : List D → (D → Prop) → Prop
  | [.lst xs], Q => Q (.tup xs)
  | [.tup xs], Q => Q (.tup xs)
  | _, _ => False
theorem c_tuple : CallR X (.type "tuple") (LCa B X.kn tupleD) := callR_by fun vs H Q ⟨F, ds, Qd, e, dk, r, q, k⟩ => by
  unfold tupleD at q
  split at q
  · obtain ⟨v, rfl, r1⟩ := rb1 r
    obtain ⟨a, us, rfl, st, rs⟩ := r1.lst e
    exact ⟨_, call_tuple_of, a, us, rfl, .inl ⟨SqL.of st, fun p hp => k.frz e dk q hp (.tup (SqT.of upd_same) (rs.mono (same_new (e.free hp))))⟩⟩
  · obtain ⟨v, rfl, r1⟩ := rb1 r
    obtain ⟨a, us, rfl, sf, st, rs⟩ := r1.tup e
    exact ⟨_, call_tuple_of, a, us, rfl, .inr ⟨st, k.here e dk q (.tup sf rs)⟩⟩
  · exact q.elim
/-- a built-in function that gives a new list -/
def LCf (B : Bs) (K : Kn) (g : List D → (List D → Prop) → Prop) : List V → Hp → VK → Prop := fun vs H Q => ∃ F ds Qd, Same F H ∧ DeckIn B.W F H ∧ RepBs B.W K F H vs ds ∧ g ds Qd ∧ FinF B K F H Qd Q
@[simp] def gBltF (g : List D → (List D → Prop) → Prop) (fs : GA) (σ : List SV) (Q : List D → Prop) : Prop := fs σ fun ds => g ds Q
theorem tcbF_of {s : L2.St} {H : Hp} {Q : VK} {g : List D → (List D → Prop) → Prop} {fs : GA} (h : LF B X.kn (gBltF g fs) s H Q) : tCB (LCf B X.kn g) (LAB B X.kn fs) s H Q := by
  obtain ⟨σ, F, Qd, R, q, k⟩ := h
  exact ⟨σ, F, _, R, q, fun ds qd F1 H1 vs g1 d1 r1 => ⟨F1, ds, Qd, g1.fh, d1, r1, qd, k.more g1⟩⟩
def listD : List D → (List D → Prop) → Prop
  | [.lst xs], Q => Q xs
  | [.tup xs], Q => Q xs
  | _, _ => False
theorem c_list : CallR X (.type "list") (LCf B X.kn listD) := callR_by fun vs H Q ⟨F, ds, Qd, e, dk, r, q, k⟩ => by
  unfold listD at q
  split at q
  · obtain ⟨v, rfl, r1⟩ := rb1 r
    obtain ⟨a, us, rfl, st, rs⟩ := r1.lst e
    exact ⟨_, call_list_of, a, us, rfl, .inl (SqL.of st), fun p hp => k.laid e dk q hp rs⟩
  · obtain ⟨v, rfl, r1⟩ := rb1 r
    obtain ⟨a, us, rfl, _, st, rs⟩ := r1.tup e
    exact ⟨_, call_list_of, a, us, rfl, .inr st, fun p hp => k.laid e dk q hp rs⟩
  · exact q.elim
variable {x : Str} {p pos : Pos} {e : Expr} {es : List Expr} {fs : GA} {T id : String} {g : List D → (List D → Prop) → Prop}
theorem fd_callTy (hc : CallR X (.type T) (LCf B X.kn g)) (hg : Gl X x) (hm : X.mg x = none) (hv : bootBuiltins x = some (.type T)) (ha : ABD B X (e :: es) fs) (hn : x ≠ "__name__" := by decide) (hdb : (x == ("__debug__" : Str)) = false := by decide)
    (he : starEach (e :: es) X.env = (false, eval e X.env) :: starEach es X.env := by rfl) (hpl : (backTo pos (starEach es X.env)).any (·.1) = false := by rfl) : FD B X (.Call (.Name x p) (e :: es) [] pos) (gBltF g fs) :=
  ⟨pe_imp (pe_callTy hc hg hm hv ha.run hn hdb he hpl) fun s H Q h => tcbF_of h⟩
/-- a division that stays with the plain way: the divisor short, or the dividend short -/
def DivPl (i j : Int) : Prop := j.natAbs.log2 < 9000 ∨ i.natAbs.log2 < 13500
theorem DivPl.no {i j : Int} (h : DivPl i j) : Builtin.divisionGoesByPylong i j = false := by
  rcases h with h | h
  · exact PyProof.noPylong_of_log2 h
  · show (decide ((if j == 0 then 0 else j.natAbs.log2 / 30 + 1) > 300) && decide ((if i == 0 then 0 else i.natAbs.log2 / 30 + 1) > (if j == 0 then 0 else j.natAbs.log2 / 30 + 1) + 150)) = false
    have k : (if i == 0 then 0 else i.natAbs.log2 / 30 + 1) ≤ 450 := by
      split
      · omega
      · omega
    generalize (if j == 0 then 0 else j.natAbs.log2 / 30 + 1) = y
    by_cases hy : y > 300
    · rw [decide_eq_false (fun z => by omega : ¬ _ > y + 150), Bool.and_false]
    · rw [decide_eq_false hy, Bool.false_and]
/-- floor division by any divisor but zero -/
def fdivA : D → D → (D → Prop) → Prop
  | .int i, .int j, Q => j ≠ 0 ∧ DivPl i j ∧ Q (.int (i.fdiv j))
  | _, _, _ => False
@[simp] theorem fdivA_i (i j : Int) (Q : D → Prop) : fdivA (.int i) (.int j) Q = (j ≠ 0 ∧ DivPl i j ∧ Q (.int (i.fdiv j))) := rfl
theorem op_fdivA : OpR X (binaryOp .FloorDiv) (rI (fun i j => j ≠ 0 ∧ DivPl i j) fun i j => .int (i.fdiv j)) := opI fun i j _ _ _ _ _ hc q => PyProof.Rows.floordiv_int hc.1 q (.inl hc.2.no)
theorem o_fdivA : OpR X (binaryOp .FloorDiv) (LO2 B X.kn fdivA) := opR_by fun v u H Q ⟨F, x, y, Qd, e, dk, r1, r2, q, k⟩ => by
  unfold fdivA at q
  split at q
  · exact ⟨_, op_fdivA, _, _, r1.int, r2.int, ⟨q.1, q.2.1⟩, k.here e dk q.2.2 (.int _)⟩
  · exact q.elim
end
end ND

/-! ND17: targets within targets; a statement t = e for any such target -/
namespace ND
open PySem PySem.Spec L2
open PyProof.Rows (envOfC)
variable {B : Bs} {X : Cx} {e t : Expr} {ts : List Expr} {pos : Pos} {fa : GE}
/-! classes: what an except clause asks -/
theorem exm_of {K : PySem.W.Frag} {C D : Addr} {b : Bool} (hc : (PySem.W.clsIn K D).isSome = true) (hs : PySem.W.subIn K (.ref D) (.type "BaseException") = some true) (ht : PySem.W.typeIn K (.ref D) = some (.type "type")) (hr : PySem.W.subIn K (.ref C) (.ref D) = some b) : PySem.W.exmOne K (.ref C) (.ref D) = some b := by
  have h1 : PySem.W.kitCls K (.ref C) (.ref D) = some b := by
    show (if ((PySem.W.clsIn K D).isSome && PySem.W.typeIn K (.ref D) == some (.type "type")) = true then PySem.W.subIn K (.ref C) (.ref D) else none) = _
    have e : ((PySem.W.clsIn K D).isSome && PySem.W.typeIn K (.ref D) == some (.type "type")) = true := by rw [hc, ht, Bool.true_and, beq_iff_eq]
    rw [if_pos e]
    exact hr
  unfold PySem.W.exmOne
  rw [if_pos (by rw [hs]; exact beq_self_eq_true _)]
  exact h1
end ND

/-! ND18: repr of integers of up to 4300 digits -/
namespace ND
open PySem PySem.Spec L2
open PyProof.Rows (envOfC)
section
variable {prog : Program} {w : World} {A : Around} {E : Value → Shared → Prop} {s : Shared} {i : Int} {t : Tok} {h₀ : Heap}
set_option maxRecDepth 100000 in
/-- an integer's own __repr__ -/
theorem big_repr {Q : Value → Shared → Prop} (hn : s.heap.NoDigits) (hb : i.natAbs < 10 ^ 4300) (q : Q (.str (toString i) s.toks) { s with toks := s.toks + 1 }) :
    wpAny (model prog w) A (call (.builtin "int.__repr__") [.int i t]) Q E s := by
  refine wpAny_call_entry F.slot_int_repr (typeIs_int s i t) F.entry_int_repr ?_ (F.args_int_repr_1 _)
  unfold Builtin.«int.__repr__»
  show wpAny _ _ (do let r ← Builtin.overDigitLimit? i; _) _ _ s
  refine wpAny_bind (PyProof.Rows.overDigitLimit_any hn (fun hl => wpAny_bind (wpAny_mkStr (wpAny_pure ⟨_, rfl, q⟩) (int_text_fits10 hl))) fun hg => ?_)
  exact absurd hb (Nat.not_lt.mpr hg)
mutual
/-- data whose repr can be told: integers below 10^4300 -/
def bigOk : PyData → Bool
  | .int i => decide (i.natAbs < 10 ^ 4300)
  | .list xs | .tuple xs => bigAll xs
  | .dict kvs => bigKv kvs
  | _ => true
def bigAll : List PyData → Bool
  | [] => true
  | d :: ds => bigOk d && bigAll ds
def bigKv : List (PyData × PyData) → Bool
  | [] => true
  | (k, d) :: ds => bigOk k && bigOk d && bigKv ds
end
theorem bigKv_split : ∀ kvs : List (PyData × PyData), bigKv kvs = true → bigAll (kvs.map (·.1)) = true ∧ bigAll (kvs.map (·.2)) = true
  | [], _ => ⟨rfl, rfl⟩
  | (k, d) :: r, h => by
    simp only [bigKv, Bool.and_eq_true] at h
    obtain ⟨h1, h2⟩ := bigKv_split r h.2
    simp only [List.map_cons, bigAll, Bool.and_eq_true]
    exact ⟨⟨h.1.1, h1⟩, h.1.2, h2⟩
/-- no dict among as is sys.modules -/
def SafeD (h : Heap) (as : List Addr) : Prop := ∀ a ∈ as, ∀ (o : Obj) (es : Array DictEntry) (n : Nat), h.get? a = some o → o.data = .dict es n → (a == sysModules) = false
theorem SafeD.sub {h : Heap} {as bs : List Addr} (s : SafeD h as) (e : ∀ a ∈ bs, a ∈ as) : SafeD h bs := fun a m => s a (e a m)
theorem big_one (hn : h₀.NoDigits) (hb : i.natAbs < 10 ^ 4300) (as : List Addr) (n : Nat) : ReprK prog w as h₀ n (.int i t) (toString i) := fun base hz A g E s Q hg _ hu hk q => by
  have hz' : base ≤ sizeLine := by omega
  rw [pyReprUnder_leaf (v := .int i t) hz' (fun _ e => nomatch e)]
  unfold pyRepr
  exact wpAny_bind (wpAny_pyReprObj_slot (by omega) (typeIs_int s i t) F.slot_int_repr.toG (big_repr (hn.keeps hk) hb ⟨_, _, rfl, wpAny_pure (q s.heap _ fun _ _ e => e)⟩))
mutual
theorem big_reads (hn : h₀.NoDigits) : ∀ {v : Value} {d : PyData} {as : List Addr}, Reads h₀ v d as → SafeD h₀ as → bigOk d = true → d.shown.length ≤ sizeLine → ∃ bs, ReadAtMost h₀ d.depth bs ∧ ReprK prog w bs h₀ d.depth v d.shown
  | _, _, _, .int i t, _, o, _ => ⟨[], nofun, by simp only [PyData.shown]; exact big_one hn (by simp only [bigOk] at o; exact of_decide_eq_true o) _ _⟩
  | _, _, _, .none, _, _, z => ReprK.of_reads .none rfl (fun e => by simp [PyData.hasDict] at e) z
  | _, _, _, .bool b, _, _, z => ReprK.of_reads (.bool b) rfl (fun e => by simp [PyData.hasDict] at e) z
  | _, _, _, .str x t, _, _, z => ReprK.of_reads (.str x t) rfl (fun e => by simp [PyData.hasDict] at e) z
  | _, _, _, .dict (a := a) (es := es) (kvs := kvs) g1 g2 g3 g4 g5, sf, o, z => by
    have z1 : (dictText (PyData.shownKv kvs)).length ≤ sizeLine := by simpa only [PyData.shown] using z
    obtain ⟨o1, o2⟩ := bigKv_split kvs (by simpa only [bigOk] using o)
    obtain ⟨b1, l1, k1⟩ := bigs_reads hn g4 (sf.sub fun _ m => List.mem_cons_of_mem _ (List.mem_append_left _ m)) o1 fun t m => by
      obtain ⟨p, mp, lp⟩ := PyData.shownKv_key_le kvs t m
      exact Nat.le_trans lp (Nat.le_trans (dictText_mem_le mp) z1)
    obtain ⟨b2, l2, k2⟩ := bigs_reads hn g5 (sf.sub fun _ m => List.mem_cons_of_mem _ (List.mem_append_right _ m)) o2 fun t m => by
      obtain ⟨p, mp, lp⟩ := PyData.shownKv_val_le kvs t m
      exact Nat.le_trans lp (Nat.le_trans (dictText_mem_le mp) z1)
    have rd := Reads.dict g1 g2 g3 g4 g5
    have low : ReadAtMost h₀ (PyData.depthKv kvs) (b1 ++ b2) := (l1.mono (PyData.depthAll_keys_le kvs)).append (l2.mono (PyData.depthAll_vals_le kvs))
    refine ⟨_ :: (b1 ++ b2), .cons rd (by simp only [PyData.depth]; omega) low, ?_⟩
    simp only [PyData.depth, PyData.shown, PyData.shownKv_eq]
    exact .dict g1 g2 g3 (sf a (List.mem_append_left _ List.mem_cons_self) _ _ _ g1 g3) (not_mem_of_deeper rd (by simp only [PyData.depth]; omega) low)
      (.of_two es.toList _ _ (k1.more_le (fun _ => List.mem_append_left _) (PyData.depthAll_keys_le kvs)) (k2.more_le (fun _ => List.mem_append_right _) (PyData.depthAll_vals_le kvs)))
  | _, _, _, .tuple (xs := xs) g1 g2 g3 g4, sf, o, z => by
    have z1 : (tupleText (PyData.shownAll xs)).length ≤ sizeLine := by simpa only [PyData.shown] using z
    obtain ⟨bs, le, ks⟩ := bigs_reads hn g4 sf (by simpa [bigOk] using o) fun t m => Nat.le_trans (tupleText_mem_le m) z1
    have rd := Reads.tuple g1 g2 g3 g4
    refine ⟨_ :: bs, .cons rd (by simp only [PyData.depth]; omega) le, ?_⟩
    simp only [PyData.depth, PyData.shown]
    exact ReprK.tuple g1 g2 g3 (not_mem_of_deeper rd (by simp only [PyData.depth]; omega) le) ks
  | _, _, _, .list (vs := vs) (xs := xs) g1 g2 g3 g4, sf, o, z => by
    have z1 : (listText (PyData.shownAll xs)).length ≤ sizeLine := by simpa only [PyData.shown] using z
    obtain ⟨bs, le, ks⟩ := bigs_reads hn g4 (sf.sub fun _ => List.mem_cons_of_mem _) (by simpa [bigOk] using o) fun t m => Nat.le_trans (listText_mem_le m) z1
    have rd := Reads.list g1 g2 g3 g4
    refine ⟨_ :: bs, .cons rd (by simp only [PyData.depth]; omega) le, ?_⟩
    simp only [PyData.depth, PyData.shown]
    have nm := not_mem_of_deeper rd (by simp only [PyData.depth]; omega) le
    rcases vs with ⟨_ | ⟨y, ys⟩⟩
    · cases (show ReadsAll h₀ [] xs _ from g4)
      simp only [PyData.shownAll, listText_nil]
      exact .listEmpty g1 g2 g3
    · exact .list g1 g2 g3 nm (by simpa using ks.length_eq) fun j y e => ks.item j y (by simpa using e)
theorem bigs_reads (hn : h₀.NoDigits) : ∀ {vs : List Value} {ds : List PyData} {as : List Addr}, ReadsAll h₀ vs ds as → SafeD h₀ as → bigAll ds = true → (∀ t ∈ PyData.shownAll ds, t.length ≤ sizeLine) →
    ∃ bs, ReadAtMost h₀ (PyData.depthAll ds) bs ∧ ReprAllK prog w bs h₀ (PyData.depthAll ds) vs (PyData.shownAll ds)
  | _, _, _, .nil, _, _, _ => ⟨[], nofun, by simp only [PyData.shownAll]; exact .nil⟩
  | _, _, _, .cons (d := d) (ds := ds) r rs, sf, o, z => by
    simp only [bigAll, Bool.and_eq_true] at o
    simp only [PyData.shownAll, List.mem_cons, forall_eq_or_imp] at z
    obtain ⟨b1, l1, k1⟩ := big_reads hn r (sf.sub fun _ => List.mem_append_left _) o.1 z.1
    obtain ⟨b2, l2, k2⟩ := bigs_reads hn rs (sf.sub fun _ => List.mem_append_right _) o.2 z.2
    simp only [PyData.depthAll, PyData.shownAll]
    exact ⟨b1 ++ b2, (l1.mono (Nat.le_max_left _ _)).append (l2.mono (Nat.le_max_right _ _)),
      .cons ((k1.more fun b => List.mem_append_left _).level_le (Nat.le_max_left _ _)) (k2.more_le (fun b => List.mem_append_right _) (Nat.le_max_right _ _))⟩
end
def isDct : PyData → Bool
  | .dict _ => true
  | _ => false
/-- repr of a tuple or a list -/
theorem repr_big {a : Addr} {d : PyData} {as : List Addr} {Q : Value → Shared → Prop} (hn : s.heap.NoDigits) (r : Reads s.heap (.ref a) d as) (sf : SafeD s.heap as) (nd : isDct d = false) (o : bigOk d = true) (z : d.shown.length ≤ sizeLine) (hg : A.guards = some []) (hu : A.units + (d.depth + 1) < cLine)
    (q : ∀ h' u tk, (∀ b o, s.heap.get? b = some o → h'.get? b = some o) → Q (.str d.shown u) { s with heap := h', toks := tk }) : wpAny (model prog w) A (call (.builtin "repr") [.ref a]) Q E s := by
  have hk0 : ∀ b o, s.heap.get? b = some o → s.heap.get? b = some o := fun _ _ e => e
  cases r with
  | tuple g1 g2 g3 g4 =>
    rename_i ob vs n xs
    have z1 : (tupleText (PyData.shownAll xs)).length ≤ sizeLine := by simpa only [PyData.shown] using z
    obtain ⟨bs, le, ks⟩ := bigs_reads (prog := prog) (w := w) hn g4 sf (by simpa [bigOk] using o) fun t m => Nat.le_trans (tupleText_mem_le m) z1
    have nm := not_mem_of_deeper (.tuple g1 g2 g3 g4) (by simp only [PyData.depth]; omega) le
    simp only [PyData.depth] at hu
    simp only [PyData.shown] at q
    exact call_repr_slot (by omega) ⟨ob, g1, g2⟩ F.slot_tuple_repr (call_tuple_reprK g1 g2 g3 nm ks hg (fun b _ => Clear.nil b) (by show A.units + 1 + _ < cLine; omega) hk0 (fun h' u tk k => ⟨_, _, rfl, q h' u tk k⟩) z1)
  | list g1 g2 g3 g4 =>
    rename_i ob vs n xs bs₀
    have z1 : (listText (PyData.shownAll xs)).length ≤ sizeLine := by simpa only [PyData.shown] using z
    obtain ⟨bs, le, ks⟩ := bigs_reads (prog := prog) (w := w) hn g4 (sf.sub fun _ => List.mem_cons_of_mem _) (by simpa [bigOk] using o) fun t m => Nat.le_trans (listText_mem_le m) z1
    have nm := not_mem_of_deeper (.list g1 g2 g3 g4) (by simp only [PyData.depth]; omega) le
    simp only [PyData.depth] at hu
    simp only [PyData.shown] at q
    refine call_repr_slot (by omega) ⟨ob, g1, g2⟩ F.slot_list_repr.toG ?_
    rcases vs with ⟨_ | ⟨y, ys⟩⟩
    · cases (show ReadsAll s.heap [] xs _ from g4)
      simp only [PyData.shownAll, listText_nil] at q
      exact call_list_repr_empty ⟨ob, g1, g2⟩ g1 g3 ⟨_, _, rfl, q s.heap _ _ fun _ _ e => e⟩
    · exact call_list_reprK g1 g2 g3 nm (by simpa using ks.length_eq) (fun j y e => ks.item j y (by simpa using e)) hg (fun b _ => Clear.nil b) (by show A.units + 1 + _ < cLine; omega) hk0 (fun h' u tk k => ⟨_, _, rfl, q h' u tk k⟩) z1
  | dict => cases nd
end
section
variable {B : Bs} {X : Cx}
/-! data with dicts in it, no object within, at most n deep -/
mutual
def rp : Nat → D → Bool
  | _, .non => true
  | _, .bl _ => true
  | _, .int _ => true
  | _, .str x => PyData.strOk x
  | 0, .tup _ => false
  | 0, .lst _ => false
  | 0, .dic _ => false
  | n + 1, .tup xs => rps n xs
  | n + 1, .lst xs => rps n xs
  | n + 1, .dic xs => rpk n xs
  | _, .obj _ _ => false
  | _, .opq _ => false
def rps : Nat → List D → Bool
  | _, [] => true
  | n, x :: xs => rp n x && rps n xs
def rpk : Nat → List (Key × D) → Bool
  | _, [] => true
  | n, (.inl _, x) :: xs => rp n x && rpk n xs
  | n, (.inr k, x) :: xs => PyData.strOk k && rp n x && rpk n xs
end
mutual
theorem rp_depth : ∀ (n : Nat) (d : D), rp n d = true → (toPy d).depth ≤ n
  | n, .non, _ => by simp [toPy, PyData.depth]
  | n, .bl b, _ => by simp [toPy, PyData.depth]
  | n, .int b, _ => by simp [toPy, PyData.depth]
  | n, .str x, h => by simp [toPy, PyData.depth]
  | 0, .tup xs, h => by simp [rp] at h
  | 0, .lst xs, h => by simp [rp] at h
  | 0, .dic xs, h => by simp [rp] at h
  | n + 1, .tup xs, h => by
    have h2 := rps_depth n xs (by simpa only [rp] using h)
    simp only [toPy, PyData.depth]
    omega
  | n + 1, .lst xs, h => by
    have h2 := rps_depth n xs (by simpa only [rp] using h)
    simp only [toPy, PyData.depth]
    omega
  | n + 1, .dic xs, h => by
    have h2 := rpk_depth n xs (by simpa only [rp] using h)
    simp only [toPy, PyData.depth]
    omega
  | n, .obj _ _, h => by simp [rp] at h
  | n, .opq _, h => by simp [rp] at h
theorem rps_depth : ∀ (n : Nat) (d : List D), rps n d = true → PyData.depthAll (toPys d) ≤ n
  | n, [], _ => by simp [toPys, PyData.depthAll]
  | n, x :: xs, h => by
    simp only [rps, Bool.and_eq_true] at h
    have h1 := rp_depth n x h.1
    have h2 := rps_depth n xs h.2
    simp only [toPys, PyData.depthAll]
    omega
theorem rpk_depth : ∀ (n : Nat) (d : List (Key × D)), rpk n d = true → PyData.depthKv (toPyK d) ≤ n
  | n, [], _ => by simp [toPyK, PyData.depthKv]
  | n, (.inl k, x) :: xs, h => by
    simp only [rpk, Bool.and_eq_true] at h
    have h1 := rp_depth n x h.1
    have h2 := rpk_depth n xs h.2
    simp only [toPyK, PyData.depthKv, PyData.depth]
    omega
  | n, (.inr k, x) :: xs, h => by
    simp only [rpk, Bool.and_eq_true] at h
    have h1 := rp_depth n x h.1.2
    have h2 := rpk_depth n xs h.2
    simp only [toPyK, PyData.depthKv, PyData.depth]
    omega
end
theorem safe_seq {h : Heap} {a : Addr} {o : Obj} {vs : Array Value} {n : Nat} {as : List Addr} (ho : h.get? a = some o) (hd : o.data = .seq vs n) (s : SafeD h as) : SafeD h (a :: as) := fun b m ob es k e1 e2 => by
  rcases List.mem_cons.mp m with z | z
  · subst z
    rw [ho] at e1
    cases e1
    rw [hd] at e2
    cases e2
  · exact s b z ob es k e1 e2
theorem safe_app {h : Heap} {as bs : List Addr} (s : SafeD h as) (s2 : SafeD h bs) : SafeD h (as ++ bs) := fun b m => (List.mem_append.mp m).elim (s b) (s2 b)
theorem safe_nil {h : Heap} : SafeD h [] := fun _ m => (nomatch m)
section
variable {pins : List (Addr × Obj)} {σ : L2.St} {H F : Hp} {s : Shared}
mutual
theorem rep_reads (I : Inv X pins σ H s) (e : Same F H) : ∀ (n : Nat) (d : D) (v : V) (u : Value), rp n d = true → Rep X.kn F v d → RelV v u → ∃ as, Reads s.heap u (toPy d) as ∧ SafeD s.heap as
  | _, .non, _, _, _, h, r => by cases h; cases r; exact ⟨_, by simp only [toPy]; exact .none, safe_nil⟩
  | _, .bl _, _, _, _, h, r => by cases h; cases r; exact ⟨_, by simp only [toPy]; exact .bool _, safe_nil⟩
  | _, .int _, _, _, _, h, r => by cases h; obtain ⟨t, rfl⟩ := r; exact ⟨_, by simp only [toPy]; exact .int _ _, safe_nil⟩
  | _, .str _, _, _, _, h, r => by cases h; obtain ⟨t, rfl⟩ := r; exact ⟨_, by simp only [toPy]; exact .str _ _, safe_nil⟩
  | 0, .tup _, _, _, p, _, _ => by simp [rp] at p
  | 0, .lst _, _, _, p, _, _ => by simp [rp] at p
  | 0, .dic _, _, _, p, _, _ => by simp [rp] at p
  | n + 1, .tup ds, _, _, p, h, r => by
    cases h with
    | tup h rs =>
      cases r
      obtain ⟨its, rv, ⟨o, ho, hc, m, hd⟩, _⟩ := I.tuple (same_t e h)
      obtain ⟨as, hr, sf⟩ := reps_reads I e n ds _ its (by simpa only [rp] using p) rs rv
      exact ⟨_, by simp only [toPy]; exact .tuple ho hc hd hr, sf⟩
  | n + 1, .lst ds, _, _, p, h, r => by
    cases h with
    | lst h rs =>
      cases r
      obtain ⟨its, rv, ⟨o, m, ho, hc, _, hd⟩, _⟩ := I.list (SqL.of (e _ _ h))
      obtain ⟨as, hr, sf⟩ := reps_reads I e n ds _ its (by simpa only [rp] using p) rs rv
      exact ⟨_, by simp only [toPy]; exact .list ho hc hd hr, safe_seq ho hd sf⟩
  | n + 1, .dic ds, _, _, p, h, r => by
    cases h with
    | dic h rs =>
      cases r
      obtain ⟨_, hS, vs, kv, o, es, ep, ho, hx, hd, _, hp, _⟩ := I.hok _ _ (e _ _ h)
      obtain ⟨as, bs, h1, h2, s1, s2⟩ := repk_reads I e n ds _ vs es.toList (by simpa only [rp] using p) rs kv hp
      refine ⟨_, by simp only [toPy]; exact .dict ho hx.1 hd h1 h2, safe_app (fun b m ob es' k e1 e2 => ?_) s2⟩
      rcases List.mem_cons.mp m with z | z
      · subst z
        exact hS
      · exact s1 b z ob es' k e1 e2
  | _, .obj _ _, _, _, p, _, _ => by simp [rp] at p
  | _, .opq _, _, _, p, _, _ => by simp [rp] at p
theorem reps_reads (I : Inv X pins σ H s) (e : Same F H) : ∀ (n : Nat) (ds : List D) (vs : List V) (us : List Value), rps n ds = true → Reps X.kn F vs ds → Vals vs us → ∃ as, ReadsAll s.heap us (toPys ds) as ∧ SafeD s.heap as
  | _, [], _, _, _, h, r => by cases h; cases r; exact ⟨_, by simp only [toPys]; exact .nil, safe_nil⟩
  | n, d :: ds, _, _, p, h, r => by
    simp only [rps, Bool.and_eq_true] at p
    cases h with
    | cons h1 h2 =>
      cases r with
      | cons r1 r2 =>
        obtain ⟨as, q1, s1⟩ := rep_reads I e n d _ _ p.1 h1 r1
        obtain ⟨bs, q2, s2⟩ := reps_reads I e n ds _ _ p.2 h2 r2
        exact ⟨_, by simp only [toPys]; exact .cons q1 q2, safe_app s1 s2⟩
theorem repk_reads (I : Inv X pins σ H s) (e : Same F H) : ∀ (n : Nat) (ds : List (Key × D)) (vs : List (Key × V)) (us : List (Key × Value)) (es : List DictEntry), rpk n ds = true → RepKs X.kn F vs ds → KV vs us → Pairs (mixKind X.prog X.w) es us →
    ∃ as bs, ReadsAll s.heap (es.map (·.key)) ((toPyK ds).map (·.1)) as ∧ ReadsAll s.heap (es.map (·.val)) ((toPyK ds).map (·.2)) bs ∧ SafeD s.heap as ∧ SafeD s.heap bs
  | _, [], _, _, _, _, h, r, p => by
    cases h
    cases r
    cases p
    exact ⟨_, _, by simp only [toPyK, List.map_nil]; exact .nil, by simp only [toPyK, List.map_nil]; exact .nil, safe_nil, safe_nil⟩
  | n, (.inl k, d) :: ds, _, _, _, q, h, r, p => by
    simp only [rpk, Bool.and_eq_true] at q
    cases h with
    | cons h1 h2 =>
      cases r with
      | @cons _ b _ _ r1 r2 =>
        obtain ⟨bk, bv⟩ := b
        obtain ⟨rfl, rv⟩ := r1
        cases p with
        | cons p1 p2 p3 =>
          obtain ⟨t, ek⟩ := Value.isInt_shape (show Value.isInt k _ = true from p1)
          obtain ⟨as, bs, a1, a2, s1, s2⟩ := repk_reads I e n ds _ _ _ q.2 h2 r2 p3
          obtain ⟨cs, c1, s3⟩ := rep_reads I e n d _ _ q.1 h1 rv
          simp only [toPyK, List.map_cons]
          rw [ek, p2]
          exact ⟨_, _, .cons (.int k t) a1, .cons c1 a2, safe_app safe_nil s1, safe_app s3 s2⟩
  | n, (.inr k, d) :: ds, _, _, _, q, h, r, p => by
    simp only [rpk, Bool.and_eq_true] at q
    cases h with
    | cons h1 h2 =>
      cases r with
      | @cons _ b _ _ r1 r2 =>
        obtain ⟨bk, bv⟩ := b
        obtain ⟨rfl, rv⟩ := r1
        cases p with
        | cons p1 p2 p3 =>
          obtain ⟨t, ek⟩ := Value.isStrOf_shape (show Value.isStrOf k _ = true from p1)
          obtain ⟨as, bs, a1, a2, s1, s2⟩ := repk_reads I e n ds _ _ _ q.2 h2 r2 p3
          obtain ⟨cs, c1, s3⟩ := rep_reads I e n d _ _ q.1.2 h1 rv
          simp only [toPyK, List.map_cons]
          rw [ek, p2]
          exact ⟨_, _, .cons (.str k t) a1, .cons c1 a2, safe_app safe_nil s1, safe_app s3 s2⟩
end
theorem repB_reads (I : Inv X pins σ H s) (e : Same F H) {d : D} {v : V} {u : Value} {W : WT} (p : rp 64 d = true) (h : RepB W X.kn F H v d) (r : RelV v u) (nd : isDct (toPy d) = false) : ∃ as, Reads s.heap u (toPy d) as ∧ SafeD s.heap as := by
  rcases h with h | ⟨a, ds, vs, rfl, rfl, _, h, rs⟩ | ⟨a, ds, vs, rfl, rfl, _, h, rs⟩
  · exact rep_reads I e 64 d v u p h r
  · cases r
    obtain ⟨its, rv, ⟨o, m, ho, hc, _, hd⟩, _⟩ := I.list (SqL.of h)
    obtain ⟨as, hr, sf⟩ := reps_reads I e 63 ds _ its (by simpa only [rp] using p) rs rv
    exact ⟨_, by simp only [toPy]; exact .list ho hc hd hr, safe_seq ho hd sf⟩
  · simp only [toPy, isDct] at nd
    cases nd
end
/-- the written part says that no limit of digits is set -/
structure Dig (K : PySem.W.Frag) : Prop where
  ok : PySem.W.nsOkIn K cStatics = true
  no : PySem.W.nsIn K cStatics "sys.int_max_str_digits" = some none
theorem Dig.at {K : PySem.W.Frag} {h : Heap} (d : Dig K) (X : K.In h) : h.NoDigits := ⟨h.nsMap cStatics, .of_isNs (PySem.W.isNs_of_in X d.ok), PySem.W.nsMap_none_of_in X d.ok d.no⟩
def reprB : List D → (D → Prop) → Prop
  | [x], Q => rp 64 x = true ∧ isDct (toPy x) = false ∧ bigOk (toPy x) = true ∧ (toPy x).shown.length ≤ sizeLine ∧ Q (.str (toPy x).shown)
  | _, _ => False
@[simp] theorem reprB_x (x : D) (Q : D → Prop) : reprB [x] Q = (rp 64 x = true ∧ isDct (toPy x) = false ∧ bigOk (toPy x) = true ∧ (toPy x).shown.length ≤ sizeLine ∧ Q (.str (toPy x).shown)) := rfl
theorem c_reprB (hd : Dig X.K) (hG : X.A.guards = some []) (hu : X.A.units + 65 < cLine) : CallR X (.builtin "repr") (LCa B X.kn reprB) := fun pins s σ H vs us Q I rx ⟨F, ds, Qd, e, dk, r, q, k⟩ => by
  unfold reprB at q
  split at q
  · rename_i x
    obtain ⟨v, rfl, r1⟩ := rb1 r
    obtain ⟨h1, hnd, h2, h3, h4⟩ := q
    obtain ⟨u, rfl, ru⟩ := vals1 rx
    have fin : Q (.str (toPy x).shown) H := k.here e dk h4 (.str _)
    have sh := rp_depth 64 x h1
    have nd := hd.at I.kIn
    have refs : ∀ a, v = .ref a → wpAny (model X.prog X.w) X.A (call (.builtin "repr") [u]) (EP X pins σ Q) X.xe s := fun a hv => by
      subst hv
      cases ru
      obtain ⟨as, rd, sf⟩ := repB_reads I e h1 r1 rfl hnd
      exact repr_big nd rd sf hnd h2 h3 hG (by omega) fun h' u tk hk => ⟨.str _, H, I.kept (t' := tk) hk, ⟨_, rfl⟩, fin⟩
    cases x with
    | non => cases r1.non; cases ru; exact PySem.P.repr_of_none ⟨.str _, H, I.tok _, ⟨_, rfl⟩, by simpa [toPy, PyData.shown] using fin⟩
    | bl b => cases r1.bl; cases ru; exact PySem.P.repr_of_bool ⟨.str _, H, I.tok _, ⟨_, rfl⟩, by simpa [toPy, PyData.shown] using fin⟩
    | int i =>
      cases r1.int
      obtain ⟨t, rfl⟩ := ru
      refine call_repr_slot (by omega) (typeIs_int s i t) PySem.F.slot_int_repr.toG (big_repr nd (by simp only [toPy, bigOk] at h2; exact of_decide_eq_true h2) ⟨_, _, rfl, .str _, H, I.tok _, ⟨_, rfl⟩, ?_⟩)
      simpa [toPy, PyData.shown] using fin
    | str i =>
      cases r1.str
      obtain ⟨t, rfl⟩ := ru
      exact PySem.P.repr_of_str ⟨.str _, H, I.tok _, ⟨_, rfl⟩, by simpa [toPy, PyData.shown] using fin⟩ (by simpa [toPy, PyData.shown] using h3)
    | tup xs => obtain ⟨a, us, hv, _⟩ := r1.tup e; exact refs a hv
    | lst xs => obtain ⟨a, us, hv, _⟩ := r1.lst e; exact refs a hv
    | dic _ => simp only [toPy, isDct] at hnd; cases hnd
    | obj _ _ => simp [rp] at h1
    | opq _ => simp [rp] at h1
  · exact q.elim
end
end ND

/-! ND19: int of a text of up to 4300 signs -/
namespace ND
open PySem PySem.Spec L2
open PyProof.Rows (envOfC)
section
open PySem.Calls PySem.NumText PySem.W.KIN PySem.W
theorem wp_max {M : Model} {A : Around} {E : Value → Shared → Prop} {s : Shared} {Q : Nat → Shared → Prop} (hn : s.heap.NoDigits) (h : Q 4300 s) : wpAny M A Builtin.intMaxStrDigits Q E s := by
  obtain ⟨mc, hns, hnone⟩ := hn
  unfold Builtin.intMaxStrDigits
  refine wpAny_bind (wpAny_nsGet hns ?_)
  rw [hnone]
  exact wpAny_pure h
theorem wp_text4 {M : Model} {A : Around} {E : Value → Shared → Prop} {s : Shared} {Q : Value → Shared → Prop} {v : Value} {text : List Nat} {n : Int} (hn : s.heap.NoDigits)
    (hs : ¬ (text.takeWhile (· != 0)).length ≤ 640) (hr : (int_private% "readNumeral") 4300 10 (text.takeWhile (· != 0)) = (int_private% "Numeral.value") n)
    (ha : ((text.takeWhile (· != 0)).length == text.length) = true) (h : Q (.int n s.toks) { s with toks := s.toks + 1 }) :
    wpAny M A ((int_private% "intFromText") v text 10) Q E s := by
  obtain ⟨hp, g, d, tk, os⟩ := s
  repeat (any_goals (first
    | assumption
    | (with_reducible refine wpAny_ite_false (decide_eq_false hs) ?_)
    | (with_reducible refine wpAny_ite_true (decide_eq_true ha) ?_)
    | (with_reducible refine wp_max hn ?_)
    | wp_step))
  all_goals (try rw [hr])
  all_goals (try dsimp only)
  repeat (any_goals (first
    | assumption
    | (with_reducible refine wpAny_ite_true (decide_eq_true ha) ?_)
    | wp_step))
theorem read4 {x : Str} {n : Int} (hx : x.length ≤ sizeLine) (hn : PySem.intText? x = some n) : (int_private% "readNumeral") 4300 10 (numSeenOf x) = (int_private% "Numeral.value") n ∧ ((numSeenOf x).length == (numTextOf x).length) = true := by
  rcases read4300 x hx with ⟨m, h1, h2, h3⟩ | ⟨h1, _⟩
  · cases hn.symm.trans h1
    exact ⟨h3, h2⟩
  · cases hn.symm.trans h1
def s4 (n : Int) : Spec := fun _ R s => s.heap.NoDigits ∧ R (.ok (.ret (.int n s.toks))) { s with toks := s.toks + 1 }
theorem meets4 {x : PySem.Str} {u : Tok} {n : Int} (hl : ¬ (numSeenOf x).length ≤ 640) (hx : x.length ≤ sizeLine) (hn : PySem.intText? x = some n) : Meets (Builtin.«int.__new__» ⟨[.type "int", .str x u], []⟩) (s4 n) := by
  rintro prog w A R s ⟨hd, h⟩
  refine wpAny_mono (Q := fun fin s' => ∃ v, fin = .done (.ret v) ∧ R (.ok (.ret v)) s') ?_ (fun fin s' h' => by obtain ⟨v, rfl, hv⟩ := h'; exact hv) fun _ _ e => e
  obtain ⟨hp, g, d, tk, os⟩ := s
  have f1 := PySem.F.conv_sub_int
  have f2 := PySem.F.madeHere_int
  have f3 := str_int
  have f4 := str_idx
  have f5 := str_trunc
  have f6 : typeOf (.str x u) = pure (.type "str") := rfl
  have hk := Hid.mk (And.intro hl (read4 hx hn))
  clear hl hn hx
  repeat (any_goals (first
    | assumption
    | ((with_reducible show wpAny _ _ ((int_private% "intFromText") _ _ _) _ _ _); refine wp_text4 hd hk.out.1 hk.out.2.1 hk.out.2.2 ?_)
    | wp_step))
  all_goals first | exact ⟨_, rfl, h⟩ | skip
theorem read1 {x : Str} {n : Int} (hs : (numSeenOf x).length ≤ 640) (hn : PySem.intText? x = some n) : (int_private% "readNumeral") 0 10 (numSeenOf x) = (int_private% "Numeral.value") n ∧ ((numSeenOf x).length == (numTextOf x).length) = true := by
  rcases read0 x hs with ⟨m, h1, h2, h3⟩ | ⟨h1, _⟩
  · cases hn.symm.trans h1
    exact ⟨h3, h2⟩
  · cases hn.symm.trans h1
theorem meets1 {x : PySem.Str} {u : Tok} {n : Int} (hl : (numSeenOf x).length ≤ 640) (hn : PySem.intText? x = some n) : Meets (Builtin.«int.__new__» ⟨[.type "int", .str x u], []⟩) (s4 n) := by
  rintro prog w A R s ⟨hd, h⟩
  refine wpAny_mono (Q := fun fin s' => ∃ v, fin = .done (.ret v) ∧ R (.ok (.ret v)) s') ?_ (fun fin s' h' => by obtain ⟨v, rfl, hv⟩ := h'; exact hv) fun _ _ e => e
  obtain ⟨hp, g, d, tk, os⟩ := s
  have f1 := PySem.F.conv_sub_int
  have f2 := PySem.F.madeHere_int
  have f3 := str_int
  have f4 := str_idx
  have f5 := str_trunc
  have f6 : typeOf (.str x u) = pure (.type "str") := rfl
  have hk := Hid.mk (And.intro hl (read1 hl hn))
  clear hl hn
  repeat (any_goals (first
    | assumption
    | ((with_reducible show wpAny _ _ ((int_private% "intFromText") _ _ _) _ _ _); refine wp_text hk.out.1 hk.out.2.1 hk.out.2.2 ?_)
    | wp_step))
  all_goals first | exact ⟨_, rfl, h⟩ | skip
theorem call_text4 {prog : Program} {w : World} {A : Around} {E : Value → Shared → Prop} {s : Shared} {Q : Value → Shared → Prop} {x : PySem.Str} {t : Tok} {n : Int} (hd : s.heap.NoDigits) (hx : x.length ≤ sizeLine) (hn : PySem.intText? x = some n)
    (h : Q (.int n s.toks) { s with toks := s.toks + 1 }) : wpAny (model prog w) A (call (.type "int") [.str x t]) Q E s := by
  by_cases hl : (numSeenOf x).length ≤ 640
  · exact call_int_1 (meets1 hl hn) ⟨hd, rfl, h⟩
  · exact call_int_1 (meets4 hl hx hn) ⟨hd, rfl, h⟩
end
section
variable {B : Bs} {X : Cx}
/-- int(..), of texts of any length that is allowed -/
def intB : List D → (D → Prop) → Prop
  | [.int i], Q => Q (.int i)
  | [.bl b], Q => Q (.int (if b = true then 1 else 0))
  | [.str x], Q => ∃ n, intText? x = some n ∧ x.length ≤ sizeLine ∧ Q (.int n)
  | _, _ => False
@[simp] theorem intB_i (i : Int) (Q : D → Prop) : intB [.int i] Q = Q (.int i) := rfl
@[simp] theorem intB_b (i : Bool) (Q : D → Prop) : intB [.bl i] Q = Q (.int (if i = true then 1 else 0)) := rfl
@[simp] theorem intB_s (x : Str) (Q : D → Prop) : intB [.str x] Q = ∃ n, intText? x = some n ∧ x.length ≤ sizeLine ∧ Q (.int n) := rfl
theorem c_intB (hd : Dig X.K) : CallR X (.type "int") (LCa B X.kn intB) := fun pins s σ H vs us Q I rx ⟨F, ds, Qd, e, dk, r, q, k⟩ => by
  unfold intB at q
  split at q
  · exact c_int pins s σ H vs us Q I rx ⟨F, _, Qd, e, dk, r, q, k⟩
  · exact c_int pins s σ H vs us Q I rx ⟨F, _, Qd, e, dk, r, q, k⟩
  · obtain ⟨v, rfl, r1⟩ := rb1 r
    obtain ⟨n, h1, h2, h3⟩ := q
    cases r1.str
    obtain ⟨u, rfl, t, rfl⟩ := vals1 rx
    exact call_text4 (hd.at I.kIn) h2 h1 ⟨.int n, H, I.tok _, ⟨_, rfl⟩, k.here e dk h3 (.int _)⟩
  · exact q.elim
end
end ND

/-! ND20: how long a repr is -/
namespace ND
open PySem PySem.Spec L2
mutual
/-- a bound of the length of the repr -/
def rsz : D → Nat
  | .non => 5
  | .bl _ => 5
  | .int _ => 4301
  | .str x => 10 * x.cps.size + 2
  | .tup xs => rszs xs + 3
  | .lst xs => rszs xs + 3
  | .dic xs => rszk xs + 3
  | _ => 5
def rszs : List D → Nat
  | [] => 0
  | x :: xs => rsz x + 2 + rszs xs
def rszk : List (Key × D) → Nat
  | [] => 0
  | (.inl _, x) :: xs => 4301 + rsz x + 4 + rszk xs
  | (.inr k, x) :: xs => 10 * k.cps.size + 2 + rsz x + 4 + rszk xs
end
theorem toPys_len : ∀ xs : List D, (PyData.shownAll (toPys xs)).length = xs.length
  | [] => by simp [toPys, PyData.shownAll]
  | x :: xs => by simp [toPys, PyData.shownAll, toPys_len xs]
theorem toPyK_len : ∀ xs : List (Key × D), (PyData.shownKv (toPyK xs)).length = xs.length
  | [] => by simp [toPyK, PyData.shownKv]
  | (.inl _, x) :: xs => by simp [toPyK, PyData.shownKv, toPyK_len xs]
  | (.inr _, x) :: xs => by simp [toPyK, PyData.shownKv, toPyK_len xs]
theorem str_rsz {x : Str} (h1 : PyData.strOk x = true) : (PyData.shown (.str x)).length ≤ 10 * x.cps.size + 2 := by
  have hx : ∀ c ∈ x.cps.toList, c < 16 ^ 8 := fun c hc => by
    unfold PyData.strOk at h1
    rw [← Array.all_toList, List.all_eq_true] at h1
    have := of_decide_eq_true (h1 c hc)
    omega
  simp only [PyData.shown]
  exact StrLaws.reprText_len x hx
theorem int_rsz {i : Int} (h : bigOk (.int i) = true) : (PyData.shown (.int i)).length ≤ 4301 := by
  simp only [bigOk, decide_eq_true_eq] at h
  have e := int_text_length_le10 (k := 4300) (by decide) h
  simp only [PyData.shown]
  rw [ofString_length]
  exact e
mutual
theorem shown_rsz : ∀ (n : Nat) (d : D), rp n d = true → bigOk (toPy d) = true → (toPy d).shown.length ≤ rsz d
  | _, .non, _, _ => by show (PyData.shown .none).length ≤ 5; decide
  | _, .bl b, _, _ => by cases b <;> decide
  | _, .int i, _, h => by
    simp only [toPy, rsz] at h ⊢
    exact int_rsz h
  | n, .str x, h, _ => by
    simp only [toPy, rsz]
    exact str_rsz (by cases n <;> simpa only [rp] using h)
  | 0, .tup xs, h, _ => by simp [rp] at h
  | 0, .lst xs, h, _ => by simp [rp] at h
  | 0, .dic xs, h, _ => by simp [rp] at h
  | n + 1, .tup xs, h, h' => by
    have e := shownAll_rsz n xs (by simpa only [rp] using h) (by simpa only [toPy, bigOk] using h')
    have e2 := tupleText_len_le (PyData.shownAll (toPys xs))
    rw [toPys_len] at e2
    simp only [toPy, PyData.shown, rsz]
    omega
  | n + 1, .lst xs, h, h' => by
    have e := shownAll_rsz n xs (by simpa only [rp] using h) (by simpa only [toPy, bigOk] using h')
    have e2 := listText_len_le (PyData.shownAll (toPys xs))
    rw [toPys_len] at e2
    simp only [toPy, PyData.shown, rsz]
    omega
  | n + 1, .dic xs, h, h' => by
    have e := shownKv_rsz n xs (by simpa only [rp] using h) (by simpa only [toPy, bigOk] using h')
    have e2 := dictText_len_le (PyData.shownKv (toPyK xs))
    rw [toPyK_len] at e2
    simp only [toPy, PyData.shown, rsz]
    omega
  | n, .obj _ _, h, _ => by simp [rp] at h
  | n, .opq _, h, _ => by simp [rp] at h
theorem shownAll_rsz : ∀ (n : Nat) (xs : List D), rps n xs = true → bigAll (toPys xs) = true → ((PyData.shownAll (toPys xs)).map (·.length)).sum + 2 * xs.length ≤ rszs xs
  | _, [], _, _ => by simp [toPys, PyData.shownAll, rszs]
  | n, x :: xs, h, h' => by
    simp only [rps, Bool.and_eq_true] at h
    simp only [toPys, bigAll, Bool.and_eq_true] at h'
    have e1 := shown_rsz n x h.1 h'.1
    have e2 := shownAll_rsz n xs h.2 h'.2
    simp only [toPys, PyData.shownAll, rszs, List.map_cons, List.sum_cons, List.length_cons]
    omega
theorem shownKv_rsz : ∀ (n : Nat) (xs : List (Key × D)), rpk n xs = true → bigKv (toPyK xs) = true → ((PyData.shownKv (toPyK xs)).map (·.length)).sum + 2 * xs.length ≤ rszk xs
  | _, [], _, _ => by simp [toPyK, PyData.shownKv, rszk]
  | n, (.inl k, x) :: xs, h, h' => by
    simp only [rpk, Bool.and_eq_true] at h
    simp only [toPyK, bigKv, Bool.and_eq_true] at h'
    have e0 := int_rsz h'.1.1
    have e1 := shown_rsz n x h.1 h'.1.2
    have e2 := shownKv_rsz n xs h.2 h'.2
    have e3 : ((PyData.shown (.int k)) ++ ": " ++ (toPy x).shown).length = (PyData.shown (.int k)).length + 2 + (toPy x).shown.length := by
      rw [strLen_append, strLen_append]; rfl
    simp only [toPyK, PyData.shownKv, rszk, List.map_cons, List.sum_cons, List.length_cons]
    omega
  | n, (.inr k, x) :: xs, h, h' => by
    simp only [rpk, Bool.and_eq_true] at h
    simp only [toPyK, bigKv, Bool.and_eq_true] at h'
    have e0 := str_rsz h.1.1
    have e1 := shown_rsz n x h.1.2 h'.1.2
    have e2 := shownKv_rsz n xs h.2 h'.2
    have e3 : ((PyData.shown (.str k)) ++ ": " ++ (toPy x).shown).length = (PyData.shown (.str k)).length + 2 + (toPy x).shown.length := by
      rw [strLen_append, strLen_append]; rfl
    simp only [toPyK, PyData.shownKv, rszk, List.map_cons, List.sum_cons, List.length_cons]
    omega
end
/-- what can be shown -/
def Rok (x : D) : Prop := rp 64 x = true ∧ isDct (toPy x) = false ∧ bigOk (toPy x) = true ∧ rsz x ≤ 16000000
theorem Rok.len {x : D} (h : Rok x) : (toPy x).shown.length ≤ sizeLine := Nat.le_trans (shown_rsz _ _ h.1 h.2.2.1) (Nat.le_trans h.2.2.2 (by decide))
theorem Rok.reprB {x : D} {Q : D → Prop} (h : Rok x) (q : Q (.str (toPy x).shown)) : reprB [x] Q := by
  rw [reprB_x]
  exact ⟨h.1, h.2.1, h.2.2.1, h.len, q⟩
/-- a for by what holds before each turn -/
theorem forG_inv {gt : GG} {g : GS} {E : Ed} (P : List D → List SV → Prop) (hend : ∀ σ, P [] σ → E.nx σ)
    (step : ∀ x xs σ, P (x :: xs) σ → ∀ E' : Ed, E'.rt = E.rt → E'.bk = E.nx → (∀ σ2, P xs σ2 → E'.nx σ2) → (∀ σ2, P xs σ2 → E'.ct σ2) → gt x σ fun σ' => g E' σ') : ∀ xs σ, P xs σ → forG gt g xs E σ
  | [], σ, h => hend σ h
  | x :: xs, σ, h => step x xs σ h _ rfl rfl (fun σ2 h2 => forG_inv P hend step xs σ2 h2) fun σ2 h2 => forG_inv P hend step xs σ2 h2
end ND

/-! ND21: x(lambda: ..), where x calls what it gets -/
namespace ND
open PySem PySem.Spec L2
open PyProof.Rows (envOfC)
/-- what running the lambda asks: of an error, of the answer -/
abbrev Act := (Er → Prop) → (D → Prop) → Prop
/-- what a def promises that gets a lambda -/
abbrev ASp := WD → Act → (D → Prop) → Prop
def svD : SV → SV
  | .d x => .d x
  | _ => .no
@[simp] theorem svD_d (x : D) : svD (.d x) = .d x := rfl
@[simp] theorem svD_no : svD .no = .no := rfl
@[simp] theorem svD_ol (xs : List D) : svD (.ol xs) = .no := rfl
/-- a state without what is one's own -/
@[simp] def noOwn (σ : List SV) : List SV := σ.map svD
theorem rel_noOwn {B : Bs} {K : Kn} {σ : List SV} {s : L2.St} {F H : Hp} (R : Rel B K σ s F H) : Rel ⟨B.W, F, H⟩ K (noOwn σ) s F H :=
  ⟨Grow.refl R.ex, R.deck, R.deck, by rw [noOwn, List.length_map]; exact R.len, fun _ => none, ⟨fun _ _ _ z => (nomatch z), fun _ _ z => (nomatch z)⟩, fun i x v e1 e2 => by
    rw [noOwn, List.getElem?_map] at e1
    cases h : σ[i]? with
    | none =>
      rw [h] at e1
      cases e1
    | some y =>
      rw [h] at e1
      cases e1
      cases y with
      | d z =>
        obtain ⟨u, h1, h2⟩ := R.dat h
        rw [h1] at e2
        cases e2
        exact h2
      | no => exact True.intro
      | ol xs => exact True.intro
      | od ks => exact True.intro
      | oo p n fs => exact True.intro⟩
theorem ext_notW {W : WT} {F H : Hp} {c : Addr} {φ : Heap → Prop} (dk : DeckIn W F H) (e : H c = some (.ext φ)) : ¬ InW W c := fun z => by
  rcases z with ⟨pp, ep, o⟩ | ⟨x, hx, rfl⟩
  · obtain ⟨ns, m, n, h1, h2, _⟩ := (dk.dk _ ep).st
    rcases o with o | o <;> subst o
    · rw [h1] at e
      cases e
    · rw [h2] at e
      cases e
  · obtain ⟨ps, h1, _⟩ := dk.tb x hx
    rw [h1] at e
    cases e
def ActOk (W : WT) (K : Kn) (F H : Hp) (tl : XK → Hp → VK → Prop) (act : Act) : Prop :=
  ∀ F' H' R Qd E Q, Grow W F H F' H' → DeckIn W F' H' → act R Qd → Fin ⟨W, F', H'⟩ K F' H' Qd Q → FinE W K F' H' R E → tl E H' Q
def TTg (K : Kn) (T : List (Addr × Str)) (sp : ASp) : (XK → Hp → VK → Prop) → Hp → VK → Prop := fun tl H Q =>
  ∃ (W : WD) (F : Hp) (act : Act) (Qd : D → Prop), Same F H ∧ DeckIn ⟨W, T⟩ F H ∧ sp W act Qd ∧ ActOk ⟨W, T⟩ K F H tl act ∧ Fin ⟨⟨W, T⟩, F, H⟩ K F H Qd Q
/-- the lambda at f is called: it stands in the first slot -/
def gAct (f : Addr) (act : Act) (R : Er → Prop) (σ : List SV) (Q : D → Prop) : Prop := σ[0]? = some (.d (.opq (.ref f))) ∧ act R Q
@[simp] theorem gAct_x (f g : Addr) (act : Act) (R : Er → Prop) (σ : List SV) (Q : D → Prop) : gAct f act R (.d (.opq (.ref g)) :: σ) Q = (g = f ∧ act R Q) := by
  simp [gAct]
section
variable {P : Program} {w : World} {K : PySem.W.Frag} {mg : Str → Option Value} {base : Heap} {T : List (Addr × Str)} {x a : Str} {st : Stmt} {f : Addr} {fd : FuncData} {N : List Str} {k : Nat} {sp : ASp} {g : WD → Addr → Act → GS}
abbrev cxL (P : Program) (w : World) (K : PySem.W.Frag) (mg : Str → Option Value) (base : Heap) (N : List Str) (x : Str) (st : Stmt) (f : Addr) (cdv : Value) (A : Around) (outer : List Env) (s : Shared) (H : Hp) : Cx :=
  cxOf C8.CX0 P w K mg base N x (defScope st) f cdv A outer s H C8.E0
/-- the def x, which calls its one parameter a, keeps sp -/
structure OkL (P : Program) (w : World) (K : PySem.W.Frag) (mg : Str → Option Value) (base : Heap) (T : List (Addr × Str)) (x : Str) (st : Stmt) (k : Nat) (N : List Str) (a : Str) (sp : ASp) : Prop where
  ex : ∃ (f : Addr) (oc kV doc pm cdv ct : Value) (an od : Option Addr) (osl : Array (Option Value)), mg x = some (.ref f) ∧ Fun K x x st f (PySem.W.fnOf x x (defArgs st) (defBody st) (defScope st) .none kV doc pm an cdv ct) ∧
    K.lookup f = some ⟨oc, od, .func (PySem.W.fnOf x x (defArgs st) (defBody st) (defScope st) .none kV doc pm an cdv ct), osl⟩ ∧ PySem.W.codeIn K cdv x = true ∧
    ∀ (A : Around) (outer : List Env) (q : Str) (f0 c' : Addr) (s : Shared) (H : Hp) (Q : VK) (tl : XK → Hp → VK → Prop), Room k (A.deeper (envOfC x (defScope st) s.heap.objs.size f cdv)) →
      (∀ (W : WX) (pn : List (Addr × Obj)) (xe : Value → Shared → Prop) (E : XK) (p1 p2 : Pos), Takes ((cxL P w K mg base N x st f cdv A outer s H).tr pn xe) W → (∀ cls d σ' H', E cls d H' → W cls d σ' H') →
        PE ((cxL P w K mg base N x st f cdv A outer s H).tr pn xe) (.Call (.Name a p1) [] [] p2) (fun σZ HZ Q => σZ[0]? = some (some (.ref f0)) ∧ HZ c' = some (LamX.CodeO c' q) ∧ tl E HZ Q)) →
      H c' = some (LamX.CodeO c' q) → TTg ⟨K, mg⟩ T sp tl H Q →
      ∃ t, PSs (cxL P w K mg base N x st f cdv A outer s H).nox (defBody st) t ∧ t { nx := fun _ H' => Q .non H', rt := Q } (L2.start N [.ref f0]) H
  sc : FnScope N [a] (defScope st)
end
/-! ### the making of a lambda: what becomes of the heap -/
section
variable {X : Cx} {pins : List (Addr × Obj)} {σ : L2.St} {H : Hp} {s : Shared}
/-- nothing, or the table is longer and a code object is new -/
def LamH (H : Hp) (Pt : Addr) (q : Str) (H1 : Hp) : Prop := H1 = H ∨ ∃ (ps : Array Value) (c' : Addr), H c' = none ∧ (∃ qs, H Pt = some (.tbl qs)) ∧ H1 = upd (upd H Pt (.tbl ps)) c' (LamX.CodeO c' q)
theorem no_fr (I : Inv X pins σ H s) {f : Addr} (new : s.heap.objs.size ≤ f) : f ∉ frs X.stack := fun w => by
  rcases List.mem_cons.mp (I.stkSub _ w) with z | z
  · exact Nat.lt_irrefl _ (Nat.lt_of_lt_of_le (z ▸ I.lt) new)
  · exact I.nofs new z
theorem lam_new {T : List (Addr × Str)} {c Pt : Addr} {params : Arguments} {body : Expr} {scope : Scope} {pos : Pos} {E Q : Value → Shared → Prop} {q : Str} (hq : q = X.env.qual ++ "<lambda>") (I : Inv X pins σ H s) (TB : LamX.TabB X.base X.mg c Pt) (isC : X.env.code = .ref c)
    (inT : (Pt, q) ∈ T) (one : ∀ p ∈ T, p.1 = Pt → p.2 = q) (tabs : LamX.Tabs T H) (nod : defaultsOf params X.env = ([], [])) (caught : ∀ y ∈ scope.names, y.2 = .free → ∃ c, X.env.cells.lookup y.1 = some c)
    (go : ∀ (f c' : Addr) (pm ctv : Value) (H1 : Hp) (z : Shared), Inv X pins σ H1 z → LamH H Pt q H1 → LamX.Tabs T H1 → z.heap.get? f = some (PySem.W.kla_obj "<lambda>" q params body scope (cloFrom X.env.cells scope.names []) pm c' ctv) → H1 f = none → f ∉ frs X.stack →
      H1 c' = some (LamX.CodeO c' q) → Q (.ref f) z) : wpAny (model X.prog X.w) X.A (eval (.Lambda params body scope pos) X.env) Q E s := by
  obtain ⟨ps, atP, tri, known⟩ := tabs _ inT
  have objP : s.heap.get? Pt = some { cls := .none, data := .fields ps } := I.hok Pt _ atP
  have bltP := TB.bm.keeps I.bk
  refine PySem.W.kla_eval nod ?_
  cases found : codeAmong pos ps.toList with
  | some cv =>
    obtain ⟨c', rfl, isco⟩ := known pos cv found
    refine PySem.W.kla_makeFunctionHit (mg := X.mg) (c := c) (P := Pt) (ps := ps) (closure_ok caught) I.ok.glob (I.mod.glob.keeps I.bk) isC (TB.code.keeps I.bk) objP tri found bltP fun ctv hp tk keep le => ?_
    subst hq
    exact go hp.objs.size c' _ ctv H _ (I.kept (t' := tk) fun b o e => Heap.get?_push_of_some _ (keep b o e)) (.inl rfl) tabs (Heap.get?_push_size _ rfl) (I.hok.fresh le) (no_fr I le) isco
  | none =>
    refine PySem.W.kla_makeFunction (mg := X.mg) (c := c) (P := Pt) (ps := ps) (closure_ok caught) I.ok.glob (I.mod.glob.keeps I.bk) isC (TB.code.keeps I.bk) objP tri found TB.gP bltP fun c' ctv hp tk keep le lt rec tab => ?_
    obtain ⟨c2, oc, vs, t, z2, getc, dat, nam⟩ := rec
    cases z2
    subst hq
    have le2 : s.heap.objs.size ≤ hp.objs.size := Nat.le_of_lt (Nat.lt_of_le_of_lt le lt)
    have freeC : H c' = none := I.hok.fresh le
    have neP : Pt ≠ c' := ne_of_none atP freeC
    have J := LamX.inv_table (t' := tk) (q := X.env.qual ++ "<lambda>") (more := #[rawInt pos.line, rawInt pos.col, .ref c']) (h' := hp.push (PySem.W.kla_obj "<lambda>" (X.env.qual ++ "<lambda>") params body scope (cloFrom X.env.cells scope.names []) ((X.mg "__name__").getD .none) c' ctv)) I atP
      (fun b o z e => Heap.get?_push_of_some _ (keep b o z e)) (Heap.get?_push_of_some _ tab) le ⟨oc, vs, t, Heap.get?_push_of_some _ getc, dat, nam⟩
    have others : ∀ b o, H b = some o → b ≠ Pt → upd (upd H Pt (.tbl (ps ++ #[rawInt pos.line, rawInt pos.col, .ref c']))) c' (LamX.CodeO c' (X.env.qual ++ "<lambda>")) b = some o := fun b o e z => by
      rw [upd_ne (ne_of_none e freeC), upd_ne z]
      exact e
    have codes : ∀ b (q : Str), H b = some (LamX.CodeO b q) → upd (upd H Pt (.tbl (ps ++ #[rawInt pos.line, rawInt pos.col, .ref c']))) c' (LamX.CodeO c' (X.env.qual ++ "<lambda>")) b = some (LamX.CodeO b q) := fun b q e => others b _ e fun z => by
      rw [z, atP] at e
      cases e
    refine go hp.objs.size c' _ ctv _ _ J (.inr ⟨_, c', freeC, ⟨_, atP⟩, rfl⟩) (fun p hp' => ?_) (Heap.get?_push_size _ rfl) ?_ (no_fr I le2) upd_same
    · by_cases z : p.1 = Pt
      · rw [one p hp' z, z]
        have app : (ps ++ #[rawInt pos.line, rawInt pos.col, .ref c']).toList = ps.toList ++ [rawInt pos.line, rawInt pos.col, .ref c'] := by rw [Array.toList_append]
        refine ⟨_, (upd_ne neP).trans upd_same, app ▸ PySem.TriplesOk_snoc _ _ _ _ tri, fun p2 cv e => ?_⟩
        rw [app] at e
        rcases LamX.among_app _ tri e with e | e
        · obtain ⟨c0, z1, z2⟩ := known p2 cv e
          exact ⟨c0, z1, codes _ _ z2⟩
        · exact ⟨c', e, upd_same⟩
      · obtain ⟨qs, b1, b2, b3⟩ := tabs p hp'
        refine ⟨qs, others _ _ b1 z, b2, fun p2 cv e => ?_⟩
        obtain ⟨c0, z1, z2⟩ := b3 p2 cv e
        exact ⟨c0, z1, codes _ _ z2⟩
    · have ne1 : hp.objs.size ≠ c' := Nat.ne_of_gt lt
      have ne2 : hp.objs.size ≠ Pt := fun z => Nat.lt_irrefl _ (Nat.lt_of_lt_of_le (Heap.lt_size objP) (z ▸ le2))
      rw [upd_ne ne1, upd_ne ne2]
      exact I.hok.fresh le2
end
theorem lamH_grow {W : WT} {F H H1 : Hp} {Pt : Addr} {q : Str} (e : Same F H) (dk : DeckIn W F H) (inT : (Pt, q) ∈ W.T) (l : LamH H Pt q H1) (tabs : LamX.Tabs W.T H1) : Grow W F H F H1 ∧ DeckIn W F H1 := by
  rcases l with rfl | ⟨ps, c', nc, ⟨qs, atP⟩, rfl⟩
  · exact ⟨Grow.refl e, dk⟩
  have st : ∀ a o, H a = some o → NT o → upd (upd H Pt (.tbl ps)) c' (LamX.CodeO c' q) a = some o := fun a o z n => by
    rw [upd_ne (ne_of_none z nc), upd_ne]
    · exact z
    · intro z2
      rw [z2, atP] at z
      cases z
      exact n _ rfl
  refine ⟨⟨Same.refl F, fun a o z => st a o (e a o z) (dk.nf a o z), fun a o z _ n => st a o z n, fun _ z _ => z, fun a z => upd_keep (upd_keep z)⟩, ⟨fun p z => ?_, dk.tf, tabs, dk.nf, fun a qs z => ?_⟩⟩
  · have d := dk.dk p z
    obtain ⟨ns, m, n, h1, h2, r⟩ := d.st
    exact ⟨d.fd, d.fl, d.ne, ns, m, n, st _ _ h1 (by intro _ z; cases z), st _ _ h2 (by intro _ z; cases z), r⟩
  · by_cases h1 : a = c'
    · subst h1
      rw [upd_same] at z
      cases z
    · rw [upd_ne h1] at z
      by_cases h2 : a = Pt
      · exact ⟨_, inT, h2⟩
      · rw [upd_ne h2] at z
        exact dk.ot a qs z
@[simp] def gLam (sp : ASp) (W : WD) (fl : (Er → Prop) → GE) (σ : List SV) (Q : D → Prop) : Prop := sp W (fun R Qd => fl R (noOwn σ) Qd) Q
theorem noOwn2 (σ : List SV) : noOwn (noOwn σ) = noOwn σ := by
  simp only [noOwn, List.map_map]
  congr 1
  funext x
  cases x <;> rfl
section
variable {B : Bs} {X : Cx} {M : Str → Str → Option Bool}
def tlB (W : WT) (K : Kn) (fl : (Er → Prop) → GE) (E : XK) : TE := fun σ H Q => ∃ (F : Hp) (R : Er → Prop) (σd : List SV) (Qd : D → Prop), FinE W K F H R E ∧ Rel ⟨W, F, H⟩ K σd σ F H ∧ fl R σd Qd ∧ Fin ⟨W, F, H⟩ K F H Qd Q
theorem ed_lam {x a : Str} {st : Stmt} {N : List Str} {k : Nat} {sp : ASp} {c Pt : Addr} {params : Arguments} {body : Expr} {scope : Scope} {lpos p pos : Pos} {fl : (Er → Prop) → GE}
    (O : OkL X.prog X.w X.K X.mg X.base B.W.T x st (k + 1) N a sp) (b : BindsP x st [a]) (TB : LamX.TabB X.base X.mg c Pt) (isC : X.env.code = .ref c) (inT : (Pt, X.env.qual ++ "<lambda>") ∈ B.W.T) (one : ∀ p ∈ B.W.T, p.1 = Pt → p.2 = X.env.qual ++ "<lambda>") (hr : Room (k + 2) X.A)
    (L : LamX.LamS X.env.scope scope)
    (hb : ∀ (A : Around) (outer : List Env) (s : Shared) (H : Hp) (E : XK) (f c' : Addr) (F' H' : Hp) (R : Er → Prop), Room k (A.deeper (LamX.lamEnv X scope s.heap.objs.size f c')) → FinE B.W X.kn F' H' R E → Passes (L2.CX X.prog X.w) (LamX.lamCx X A outer s H E scope f c') E →
      ED ⟨B.W, F', H'⟩ (LamX.lamCx X A outer s H E scope f c') body (fl R))
    (hN : N[0]? = some a) (hva : Vis (defScope st) a) (hdef : defaultsOf params X.env = ([], []))
    (hbind : ∀ (q : Str) (cl : List (Str × Addr)) (pm cv ctv : Value), bindArgs (PySem.W.kla_fn "<lambda>" q params body scope cl pm cv ctv) ⟨[], []⟩ = pure [])
    (hg : Gl X x := by rfl) (hdb : (x == ("__debug__" : Str)) = false := by decide) (hd : (a == ("__debug__" : Str)) = false := by decide) (hcd : (a == ("__classdict__" : Str)) = false := by decide) :
    ED B X (.Call (.Name x p) [.Lambda params body scope lpos] [] pos) (gLam sp B.W.p fl) := by
  obtain ⟨f, oc, kV, doc, pm, cdv, ct, an, od, osl, hm, F, lk, hcode2, gives⟩ := O.ex
  refine ⟨⟨fun pins s σ H Q I ⟨σd, F0, Qd, Rl, q, kf⟩ => wpAny_Call_Name_kw (ld_glob I hg hm (PySem.W.callWith_K (h₀ := X.base) I.ok.mod.kin F.kp ?_ (by rfl) (by rfl)) hdb)⟩⟩
  show wpAny _ _ (spliced ((false, eval (.Lambda params body scope lpos) X.env) :: backTo pos (starEach [] X.env))) _ _ s
  refine Calls.spliced_cons (lam_new rfl I TB isC inT one Rl.deck.tb hdef (L.has I.ok) fun f0 c' pm' ctv H1 s' I1 lH T1 getf nf nfr isco => Calls.spliced_nil ⟨I1.kIn, ?_⟩)
  obtain ⟨g, d1⟩ := lamH_grow Rl.ex Rl.deck inT lH T1
  have rc : codeAny (model X.prog X.w) X.A (.call (.ref f) ⟨[.ref f0], []⟩) (CR C8.CX0 X.stack X.prog X.w H1 s' Q C8.E0) s' := by
    refine LamX.run_ofS (N := N) (ps := [a]) (us := [.ref f0]) (vs := [.ref f0]) lk hcode2 O.sc hr I1.env0 (F.binds b s' [.ref f0] I1.kIn rfl) (.cons rfl .nil) rfl fun hr' => ?_
    obtain ⟨t', ht', hq'⟩ := gives X.A X.stack (X.env.qual ++ "<lambda>") f0 c' s' H1 Q (fun E H' Q' => tlB B.W X.kn fl E σ H' Q') hr'
      (fun W pn xe E p1 p2 tk hW => LamX.pe_act (i := 0) (tb := tlB B.W X.kn fl E) I1 L getf nf nfr (hbind _ _ _ _ _) tk hW hr' (fun A outer s H hr2 => ⟨fun pins s2 σ H2 Q I ⟨F, R, σd, Qd, hE, Rl, q, kf⟩ =>
        (hb A outer s H E f0 c' F H2 R hr2 hE (passes_call (takes_of rfl rfl rfl rfl) fun _ _ _ _ z => z)).run.run pins s2 σ H2 Q I ⟨σd, F, Qd, Rl, q, kf⟩⟩) hN hva hd hcd) isco
      ⟨B.W.p, F0, fun R Qd => fl R (noOwn σd) Qd, Qd, g.fh, d1, q, fun F' H' R Qd' E Q' g' dk' qa fin hE => ⟨F', R, noOwn σd, Qd', hE, by
        have z := rel_noOwn (B := ⟨B.W, F0, H⟩) ((rel_noOwn Rl).grow (g.trans g') dk')
        rw [noOwn2] at z
        exact z, qa, fin⟩, kf.more g⟩
    exact ⟨t', ht'.nox, hq'⟩
  refine wpAny_call (codeAny_mono rc fun r s2 hq => ?_)
  rcases r with e | fl
  · exact (show False from hq).elim
  · cases fl <;> first | exact I1.after hq | exact False.elim hq
end
end ND

/-! ND22: try around what a lambda does; str of integers; t[::-1] of a tuple; a list of one's own made in a parallel assignment; the empty promise -/
namespace ND
open PySem PySem.Spec L2
open PyProof.Rows (envOfC)
section
variable {B : Bs} {X : Cx} {M : Str → Str → Option Bool}
theorem nbSum : bootBuiltins "sum" = some (.builtin "sum") := by decide +kernel
theorem nbAll : bootBuiltins "all" = some (.builtin "all") := by decide +kernel
theorem nbAny : bootBuiltins "any" = some (.builtin "any") := by decide +kernel
theorem finE_none {W : WT} {K : Kn} {F H : Hp} {E : XK} : FinE W K F H (fun _ => False) E := fun _ q => q.elim
/-! str -/
end
/-! ### t[::-1], t a tuple that is not empty -/
section
variable {prog : Program} {w : World} {A : Around} {E : Value → Shared → Prop} {s : Shared}
end
end ND

/-! ND23: [::-1] of lists and tuples; dict displays; x, y = [..], e; the promise of nothing; the end of a law with tables -/
namespace ND
open PySem PySem.Spec L2
open PyProof.Rows
section
variable {B : Bs} {X : Cx} {e a b : Expr} {fa fb : GE} {pos : Pos}
/-! ### e[::-1] -/
/-! ### {} and {k: e}, k written -/
theorem ed_dic0 : ED B X (.Dict [] [] pos) (gC (.dic [])) :=
  ⟨pe_imp pe_dnewK fun s H Q ⟨σ, F, Qd, R, q, kf⟩ => fun d hd => kf.frz R.ex R.deck q hd (.dic upd_same .nil)⟩
@[simp] def gDic1 (k : Key) (fa : GE) (σ : List SV) (Q : D → Prop) : Prop := fa σ fun x => Q (.dic [(k, x)])
theorem ed_dic1 {kx vx : Expr} {k : Key} (hk : PE X kx (tC (kV k))) (ha : ED B X vx fa) : ED B X (.Dict [some kx] [vx] pos) (gDic1 k fa) :=
  ⟨pe_imp (pe_disp (pps_cons hk ha.run pps_nil) rfl rfl (by simp) (by simp)) fun s H Q ⟨σ, F, Qd, R, q, kf⟩ => fun p hp => by
    have R1 := R.grow (Grow.laid (o := .dK []) R.ex hp) (R.deck.laid hp)
    refine ⟨σ, F, _, R1, q, fun x qx F2 H2 v g2 d2 r2 => ?_⟩
    have fp : F p = none := R.ex.free hp
    have nw : ¬ InW B.W p := fun w => (R.deck.w w).2 hp
    have e2 : H2 p = some (.dK []) := g2.hh p _ upd_same nw (by intro _ z; cases z)
    have g := (Grow.laid (W := B.W) (o := .dK []) R.ex hp).trans g2
    have f2 : F2 p = none := g2.new p fp (by rw [upd_same]; exact Option.some_ne_none _)
    have em : mergeK [] [(k, v)] = [(k, v)] := by simp [mergeK, putK]
    refine ⟨e2, [(k, v)], rfl, by simp, ?_⟩
    rw [em]
    have gw := g.write (o := .dK [(k, v)]) hp f2
    have dw := R.deck.write (o := .dK [(k, v)]) d2 hp fun φ z => by rw [e2] at z; cases z
    exact kf _ qx _ _ _ (gw.freeze hp f2 upd_same) (R.deck.freeze dw hp) (.dic upd_same (.cons (r2.mono (same_new f2)) .nil))⟩
/-! ### x, y = [..], e -/
end
/-! ### the promise of nothing -/
section
variable {P : Program} {w : World} {K : PySem.W.Frag} {mg : Str → Option Value} {base : Heap} {T : List (Addr × Str)} {x : Str} {st : Stmt} {f : Addr} {fd : FuncData} {k : Nat} {ps : List Str}
end
end ND

/-! ND24: the end of a law whose defs make lambdas -/
namespace ND
open PySem PySem.Spec L2 PyProof.Rows
open PyProof.Rows (envOfC)
/-- the script and the tables are tracked -/
def tabH (K : PySem.W.Frag) (a : Addr) (o : Obj) (ns : List Int) (ts : List Addr) : Hp := fun b => if b ∈ ts then some (.tbl #[]) else scH K a o ns b
section
variable {K : PySem.W.Frag} {a b : Addr} {o : Obj} {ns : List Int} {ts : List Addr} {u : HO}
theorem tabH_in (h : b ∈ ts) : tabH K a o ns ts b = some (.tbl #[]) := if_pos h
theorem tabH_out (h : b ∉ ts) : tabH K a o ns ts b = scH K a o ns b := if_neg h
theorem tabH_some (h : tabH K a o ns ts b = some u) : (b ∈ ts ∧ u = .tbl #[]) ∨ (b ∉ ts ∧ b = a ∧ K.lookup a = none ∧ u = .frz o (.lst (ns.map V.int))) := by
  by_cases z : b ∈ ts
  · rw [tabH_in z] at h
    cases h
    exact .inl ⟨z, rfl⟩
  · rw [tabH_out z] at h
    exact .inr ⟨z, scH_some h⟩
end
theorem run_lawT {P : Program} {w : World} {K : PySem.W.Frag} {mg mb : Str → Option Value} {k : Nat} {fa a : Addr} {fd : FuncData} {x : Str} {sp : Sp} {t : Shared} {vs : List Value} {ns : List Int} {cs : List (Addr × Addr)}
    (KX : K.In t.heap) (nsM : t.heap.Ns mainGlobals mg) (nsB : t.heap.Ns builtinsNs mb) (bb : ∀ y : Str, y ≠ "__name__" → mb y = bootBuiltins y) (lim : t.heap.NoLimit) (gens : t.gens = #[])
    (tabs : ∀ p ∈ cs, t.heap.get? p.2 = some { cls := .none, data := .fields #[] }) (notK : ∀ p ∈ cs, K.lookup p.2 = none) (codes : ∀ p ∈ cs, PySem.W.CodeHd t.heap p.1 p.2)
    (blt : ∃ (bm : Addr) (ob : Obj), mg "__builtins__" = some (.ref bm) ∧ bm ≠ builtinsNs ∧ t.heap.get? bm = some ob ∧ ob.cls = .type "module" ∧ ob.dict = some builtinsNs ∧ ob.data = .plain)
    (ha : t.heap.get? a = some { cls := .type "list", data := .seq vs.toArray }) (hi : IntsAre vs ns) (hl : ns.length ≤ sizeLine) (room : Room k callerA)
    (G : ∀ base : Heap, K.In base → base.Ns mainGlobals mg → (∀ p ∈ cs, LamX.TabB base mg p.1 p.2) → FnG P w K mg base k fa fd [x] sp) (bind : ∀ (s : Shared) (u : Value), BindsTo s fd ⟨[u], []⟩ [(x, u)])
    (ask : ∀ H : Hp, SqL K H a (ns.map V.int) → (∀ p ∈ cs, H p.2 = some (.tbl #[])) → (∀ b ps, H b = some (.tbl ps) → ∃ p ∈ cs, b = p.2) → sp [.ref a] H (fun v _ => v = .bl true) fun _ _ _ => False) :
    codeAny (model P w) callerA (.call (.ref fa) ⟨[.ref a], []⟩) (fun r s' => r = .ok (.ret (.bool true)) ∧ OldK t.heap s'.heap ∧ s'.os = t.os ∧ AllBare s'.gens) t := by
  have vals := vals_ints hi
  have sameLen := hi.length
  have memT : ∀ p ∈ cs, p.2 ∈ cs.map (·.2) := fun p hp => List.mem_map.mpr ⟨p, hp, rfl⟩
  have isT : ∀ b ∈ cs.map (·.2), t.heap.get? b = some { cls := .none, data := .fields #[] } := fun b hb => by
    obtain ⟨p, hp, rfl⟩ := List.mem_map.mp hb
    exact tabs p hp
  have aT : a ∉ cs.map (·.2) := fun z => by
    have q := isT a z
    rw [ha] at q
    cases congrArg Obj.data (Option.some.inj q)
  generalize hH : tabH K a { cls := .type "list", data := .seq vs.toArray } ns (cs.map (·.2)) = H
  have inH : ∀ {b : Addr} {u : HO}, H b = some u → (b ∈ cs.map (·.2) ∧ u = .tbl #[]) ∨ (b ∉ cs.map (·.2) ∧ b = a ∧ K.lookup a = none ∧ u = .frz { cls := .type "list", data := .seq vs.toArray } (.lst (ns.map V.int))) := fun e => by
    rw [← hH] at e
    exact tabH_some e
  have atT : ∀ p ∈ cs, H p.2 = some (.tbl #[]) := fun p hp => by
    rw [← hH]
    exact tabH_in (memT p hp)
  have seqA : SqL K H a (ns.map V.int) := by
    cases ek : K.lookup a with
    | none =>
      refine .inl (.inr ⟨{ cls := .type "list", data := .seq vs.toArray }, ?_⟩)
      rw [← hH, tabH_out aT]
      unfold scH
      rw [if_pos ⟨rfl, ek⟩]
    | some o =>
      have same := KX a o ek
      rw [ha] at same
      cases same
      exact .inr ⟨_, vs.toArray, _, ek, rfl, rfl, rfl, by rw [List.size_toArray, sameLen]; exact hl, by simpa using vals⟩
  have okH : HOk P w H t.heap := fun b u e => by
    rcases inH e with ⟨z, rfl⟩ | ⟨_, rfl, _, rfl⟩
    · exact isT b z
    · exact ⟨ha, by rw [List.length_map]; exact hl, vs, _, vals, ha⟩
  -- what is no list, no table, is not tracked
  have plain : ∀ {b : Addr} {o : Obj}, t.heap.get? b = some o → (∀ xs n, o.data ≠ .seq xs n) → o.data ≠ .fields #[] → H b = none := fun {b o} e n1 n2 => by
    cases q : H b with
    | none => rfl
    | some u =>
      rcases inH q with ⟨z, _⟩ | ⟨_, rfl, _, _⟩
      · rw [isT b z] at e
        cases e
        exact absurd rfl n2
      · rw [ha] at e
        cases e
        exact absurd rfl (n1 _ _)
  have stays : ∀ {b : Addr} {o : Obj}, t.heap.get? b = some o → H b = none → (hidT t.heap H).get? b = some o := fun e n => hidT_get e n
  have nsStays : ∀ {b : Addr} {m : Str → Option Value}, t.heap.Ns b m → (hidT t.heap H).Ns b m := fun {b m} ⟨o, es, ep, e, dt, r⟩ =>
    ⟨o, es, ep, stays e (plain e (fun xs n z => by rw [dt] at z; cases z) fun z => by rw [dt] at z; cases z), dt, r⟩
  have kIn : K.In (hidT t.heap H) := fun b o e => stays (KX b o e) (by
    cases q : H b with
    | none => rfl
    | some u =>
      rcases inH q with ⟨z, _⟩ | ⟨_, rfl, n, _⟩
      · obtain ⟨p, hp, rfl⟩ := List.mem_map.mp z
        rw [notK p hp] at e
        cases e
      · rw [n] at e
        cases e)
  obtain ⟨mc, l1, l2⟩ := lim
  have tb : ∀ p ∈ cs, LamX.TabB (hidT t.heap H) mg p.1 p.2 := fun p hp => by
    have tp := tabs p hp
    have notG : mainGlobals ≠ p.2 := fun z => by
      obtain ⟨o, es, ep, e, dt, _⟩ := nsM
      rw [z, tp] at e
      cases e
      cases dt
    refine ⟨?_, ?_, notG⟩
    · obtain ⟨o, us, f1, f2, f3, f4, f5, f6, f7, g1, g2, g3, rest⟩ := codes p hp
      exact ⟨o, us, f1, f2, f3, f4, f5, f6, f7, stays g1 (plain g1 (fun xs n z => by rw [g3] at z; cases z) fun z => by
        rw [g3] at z
        cases z
        have := rest.1
        simp at this), g2, g3, rest⟩
    · obtain ⟨bm, ob, b1, b2, b3, b4, b5, b6⟩ := blt
      refine ⟨bm, ob, b1, b2, fun z => ?_, fun z => ?_, stays b3 (plain b3 (fun xs n z => by rw [b6] at z; cases z) fun z => by rw [b6] at z; cases z), b4, b5, b6⟩
      · obtain ⟨o, es, ep, e, dt, _⟩ := nsM
        rw [z, e] at b3
        cases b3
        rw [dt] at b6
        cases b6
      · rw [z, tp] at b3
        cases b3
        cases b6
  have env : Env0 P w K mg (hidT t.heap H) callerA [] t H := ⟨rfl, ⟨kIn, nsStays nsM, ⟨mb, nsStays nsB, bb⟩, mc, nsStays l1, l2⟩, fun b o e => of_hidT e, Nat.le_of_eq (hidT_size _ _), trivial, fun b hb => (nomatch hb), okH, .of_eq gens⟩
  have run := (G _ kIn (nsStays nsM) tb).run callerA [] t H ⟨[.ref a], []⟩ [.ref a] [.ref a] _ _ rfl room env (bind t (.ref a)) (.cons rfl .nil) (ask H seqA atT fun b ps e => by
    rcases inH e with ⟨z, _⟩ | ⟨_, _, _, z⟩
    · obtain ⟨p, hp, rfl⟩ := List.mem_map.mp z
      exact ⟨p, hp, rfl⟩
    · cases z)
  refine codeAny_mono run fun r s' h => ?_
  rcases r with e | fl
  · obtain ⟨_, _, _, _, _, _, _, _, _, _, _, _, no⟩ := (show L2.CX P w [] H t (fun _ _ _ => False) e s' from h)
    exact no.elim
  · cases fl with
    | ret u =>
      obtain ⟨v, H', os, bare, un, hok', r', q⟩ := h
      have q' : v = .bl true := q
      subst q'
      obtain rfl : u = Value.bool true := r'
      have grown : ∀ p ∈ cs, ∃ more : Array Value, s'.heap.get? p.2 = some { cls := .none, data := .fields more } := fun p hp => by
        obtain ⟨more, z⟩ := un.tbls p.2 #[] (atT p hp)
        exact ⟨_, hok' p.2 _ z⟩
      have same : ∀ b o, b ∉ cs.map (·.2) → t.heap.get? b = some o → s'.heap.get? b = some o := fun b o nb e => by
        cases q : H b with
        | none => exact un.keep b o e q (fun z => (nomatch z)) (by simp)
        | some u =>
          rcases inH q with ⟨z, _⟩ | ⟨_, rfl, _, rfl⟩
          · exact absurd z nb
          · obtain ⟨g1, _⟩ := hok' b _ (un.frzs b _ _ q)
            rw [ha] at e
            cases e
            exact g1
      refine ⟨rfl, ⟨fun b o e => ?_, fun b o e => ?_⟩, os, bare⟩
      · by_cases hb : b ∈ cs.map (·.2)
        · obtain ⟨p, hp, rfl⟩ := List.mem_map.mp hb
          obtain ⟨more, hm⟩ := grown p hp
          rw [tabs p hp] at e
          cases e
          exact .inr (.inl ⟨((codes p hp).tab (tabs p hp)).isCodeTable, rfl, #[], more, rfl, by rw [Array.empty_append]; exact hm⟩)
        · exact .inl (same b o hb e)
      · by_cases hb : b ∈ cs.map (·.2)
        · obtain ⟨p, hp, rfl⟩ := List.mem_map.mp hb
          obtain ⟨more, hm⟩ := grown p hp
          exact ⟨_, hm⟩
        · exact ⟨o, same b o hb e⟩
    | next => exact False.elim h
    | brk => exact False.elim h
    | cont => exact False.elim h
theorem walkGT {l : PySem.W.OpenLaw} {k : Nat} {q : Program} {loose : List Str} {XP : (Str → Option Value) → Heap → Prop} {YP : World → Heap → Prop} {d : DefRec} {K : Params → PySem.W.Frag} {x : Str}
    (hn : l.most = some 63) (hdf : d.params.defaults = []) (hr : Room k callerA) (hY : ∀ (w : World) (h : Heap), YP w h → (K w.params).In h)
    (G : ∀ (w : World) (mg mb : Str → Option Value) (fa : Addr) (h : Heap), YP w h → (K w.params).In h → h.Ns mainGlobals mg → mg d.name = some (.ref fa) →
      (∀ (d : DefRec) (x : Str) (c Pt : Addr), (recsOf q).find? (fun e => e.name == x) = some d → PySem.W.tabIn (K w.params) x = some (c, Pt) → PySem.W.CodeHd h c Pt ∧ h.get? Pt = some { cls := .none, data := .fields #[] }) →
      ∃ (fd : FuncData) (T : List (Addr × Addr × Str)), (∀ p ∈ T, h.get? p.2.1 = some { cls := .none, data := .fields #[] } ∧ (K w.params).lookup p.2.1 = none ∧ PySem.W.CodeHd h p.1 p.2.1) ∧ (∀ (s : Shared) (u : Value), BindsTo s fd ⟨[u], []⟩ [(x, u)]) ∧
        ∀ base : Heap, (K w.params).In base → base.Ns mainGlobals mg → (∀ p ∈ T, LamX.TabB base mg p.1 p.2.1) → FnG l.prog w (K w.params) mg base k fa fd [x] (spLaw (K w.params) (T.map fun p => (p.2.1, p.2.2)))) :
    PySem.W.WalkO q loose XP YP l.row.toRowW d [] (fun f vs => PySem.call f vs) := by
  refine Att.attach_callB hn hdf fun w s₀ t mg mb fa o pm cd doc a vs ns Gd Y ho hd hcd hmg hobj hints hlen hbits hg => ?_
  have inK := hY w _ Y
  obtain ⟨fd, T, hT, bind, run⟩ := G w mg mb fa _ Y inK Gd.T.g hmg fun d x c Pt h1 h2 => PySem.W.tab_of Gd.T inK h1 h2
  have up : ∀ p ∈ T.map (fun p => (p.1, p.2.1)), ∃ z ∈ T, p = (z.1, z.2.1) := fun p hp => by
    obtain ⟨z, hz, e⟩ := List.mem_map.mp hp
    exact ⟨z, hz, e.symm⟩
  refine run_lawT (cs := T.map fun p => (p.1, p.2.1)) inK Gd.T.g Gd.T.b Gd.T.builtins Gd.T.nolimit hg (fun p hp => ?_) (fun p hp => ?_) (fun p hp => ?_) Gd.T.bmain hobj hints (Nat.le_trans hlen (by decide)) hr (fun base b1 b2 b3 => run base b1 b2 fun p hp => b3 (p.1, p.2.1) (List.mem_map.mpr ⟨p, hp, rfl⟩)) bind
    fun H hS hA hO => ⟨a, ns, rfl, hS, hlen, fun z hz => ?_, fun b ps e => ?_, fun _ => rfl⟩
  · obtain ⟨z, hz, rfl⟩ := up p hp
    exact (hT z hz).1
  · obtain ⟨z, hz, rfl⟩ := up p hp
    exact (hT z hz).2.1
  · obtain ⟨z, hz, rfl⟩ := up p hp
    exact (hT z hz).2.2
  · obtain ⟨p, hp, rfl⟩ := List.mem_map.mp hz
    exact hA (p.1, p.2.1) (List.mem_map.mpr ⟨p, hp, rfl⟩)
  · obtain ⟨p, hp, rfl⟩ := hO b ps e
    obtain ⟨z, hz, rfl⟩ := up p hp
    exact ⟨(z.2.1, z.2.2), List.mem_map.mpr ⟨z, hz, rfl⟩, rfl⟩
end ND

/-! ND25: defs that make lambdas (their code object is known); small rules for the plain laws -/
namespace ND
open PySem PySem.Spec L2
open PyProof.Rows (envOfC)
/-- the def st stands at f, its code object is cdv -/
structure FunC (K : PySem.W.Frag) (x : Str) (st : Stmt) (f : Addr) (cdv : Value) : Prop where
  ex : ∃ (oc kV doc pm ct : Value) (od an : Option Addr) (osl : Array (Option Value)), K.lookup f = some ⟨oc, od, .func (PySem.W.fnOf x x (defArgs st) (defBody st) (defScope st) .none kV doc pm an cdv ct), osl⟩ ∧ PySem.W.codeIn K cdv x = true
  kp : PySem.W.keepIn K (.ref f) = true
section
variable {P : Program} {w : World} {K : PySem.W.Frag} {mg : Str → Option Value} {base : Heap} {x : Str} {st : Stmt} {f : Addr} {N ps : List Str} {k : Nat} {sp : DSp} {g : WD → (Er → Prop) → GS} {T : List (Addr × Str)} {cdv : Value}
theorem okGc (hm : mg x = some (.ref f)) (F : FunC K x st f cdv) (S : FnScope N ps (defScope st)) (hlen : ∀ W ds Q R, sp W ds Q R → ds.length = ps.length)
    (body : ∀ (A : Around) (outer : List Env) (s : Shared) (H : Hp) (E : XK) (W : WD) (F : Hp) (R : Er → Prop), (A.deeper (envOfC x (defScope st) s.heap.objs.size f cdv)).guards = some [] → Room k (A.deeper (envOfC x (defScope st) s.heap.objs.size f cdv)) → FinE ⟨W, T⟩ ⟨K, mg⟩ F H R E →
      PassesOwn (model P w) (cxD P w K mg base N x st f cdv A outer s H E).A (cxD P w K mg base N x st f cdv A outer s H E).env (cxD P w K mg base N x st f cdv A outer s H E).xe →
      Passes (L2.CX P w) (cxD P w K mg base N x st f cdv A outer s H E) E → SDs ⟨⟨W, T⟩, F, H⟩ (cxD P w K mg base N x st f cdv A outer s H E) (defBody st) (g W R))
    (law : ∀ W ds Q R, sp W ds Q R → g W R (endsD Q) (startD N.length ds)) : OkG P w K mg base T x st (k + 1) ps sp := by
  obtain ⟨oc, kV, doc, pm, ct, od, an, osl, lk, hcd⟩ := F.ex
  refine ⟨⟨f, _, hm, fun_mk lk hcd F.kp, fn_ofG lk hcd S (fun vs H Q E ⟨W, F, ds, Qd, Rd, h1, h2, h3, h4, _⟩ => h3.length.trans (hlen _ _ _ _ h4)) fun A outer s H vs Q E hG hr ⟨W, F, ds, Qd, Rd, h1, h2, h3, h4, h5, h6⟩ => ?_⟩⟩
  exact body_run (body A outer s H E W F Rd hG hr h6 (passes_of rfl) (passes_call (takes_of rfl rfl rfl rfl) fun _ _ _ _ z => z)) h1 h2 h3 (law W ds Qd Rd h4) h5
end
section
variable {B : Bs} {X : Cx} {e : Expr} {pos : Pos}
theorem sd_appE {k : Nat} {x : Str} {px apos cpos : Pos} {fe : GE} (hv : PE X (.Name x px) (tVar k)) (ha : ED B X e fe) (hbase : attributeBase (.Name x px) "append" X.env (eval (.Name x px) X.env) = eval (.Name x px) X.env := by rfl)
    (hfew : ((backTo cpos (starEach [e] X.env)).all (fun x => !x.1) && (backToKw cpos (keywordEach [] X.env)).all (fun x => x.1.isSome) && decide ([e].length + ([] : List Keyword).length + (if ([] : List Keyword).isEmpty then 0 else 1) < 30)) = true := by rfl)
    (hline : (apos.endLine == cpos.line) = true := by rfl) (hs1 : starEach [e] X.env = (false, eval e X.env) :: starEach [] X.env := by rfl) (hplain : (backTo cpos (starEach [] X.env)).any (·.1) = false := by rfl)
    (hs : swapsWith (.Call (.Attribute (.Name x px) "append" apos) [e] [] cpos) none pos.line X.env = pure false := by rfl) : SD B X (.Expr (.Call (.Attribute (.Name x px) "append" apos) [e] [] cpos) pos) (gApp k fe) :=
  sd_app (pe_bm PySem.F.plainAttrs_list PySem.F.slot_list_append PySem.F.type_list_append mt_append hv (pa_cons ha.run pa_nil hs1) hbase hfew hline hs1 hplain) hs
end
end ND

/-! ND26: plain facts that many laws need: sizes, draws, digits, data that can be shown -/
namespace ND
open PySem PySem.Spec L2
abbrev dkD (d : Addr) : D := .opq (.ref d)
def Sz (n : Nat) (i : Int) : Prop := i.natAbs < 2 ^ n
instance (n : Nat) (i : Int) : Decidable (Sz n i) := inferInstanceAs (Decidable (_ < _))
theorem Sz.mono {n m : Nat} {i : Int} (h : Sz n i) (e : n ≤ m) : Sz m i := Nat.lt_of_lt_of_le h (Nat.pow_le_pow_right (by decide) e)
theorem Sz.mul {n m : Nat} {i j : Int} (h : Sz n i) (h' : Sz m j) : Sz (n + m) (i * j) := by
  show (i * j).natAbs < 2 ^ (n + m)
  rw [Int.natAbs_mul, Nat.pow_add]
  exact Nat.mul_lt_mul'' h h'
theorem Sz.add {n : Nat} {i j : Int} (h : Sz n i) (h' : Sz n j) : Sz (n + 1) (i + j) := by
  have h1 : i.natAbs < 2 ^ n := h
  have h2 : j.natAbs < 2 ^ n := h'
  show (i + j).natAbs < 2 ^ (n + 1)
  rw [Nat.pow_succ]
  omega
theorem Sz.neg {n : Nat} {i : Int} (h : Sz n i) : Sz n (-i) := by
  show (-i).natAbs < 2 ^ n
  rw [Int.natAbs_neg]
  exact h
theorem Sz.sub {n : Nat} {i j : Int} (h : Sz n i) (h' : Sz n j) : Sz (n + 1) (i - j) := by
  rw [Int.sub_eq_add_neg]
  exact h.add h'.neg
theorem Sz.log {n : Nat} {i : Int} (h : Sz n i) : i.natAbs.log2 ≤ n := by
  by_cases e : i.natAbs = 0
  · rw [e]
    simp
  · exact Nat.le_of_lt ((Nat.log2_lt e).mpr h)
theorem Sz.ok {n m : Nat} {i j : Int} (h : Sz n i) (h' : Sz m j) (e : n + m < 1000000) : MulOk i j := by
  have := h.log
  have := h'.log
  show i.natAbs.log2 + j.natAbs.log2 < 1000000
  omega
theorem dr {d l : Addr} {k : Int} {Q : D → Prop} {R : Er → Prop} (h1 : 0 < k) (h2 : k < 2 ^ 62) (q : ∀ r, 0 ≤ r → r < k → Q (.int r)) : spDraw (some (d, l)) [dkD d, .int k] Q R := ⟨d, l, k, rfl, rfl, h1, h2, q⟩
theorem e62 : (2 : Int) ^ 62 = 4611686018427387904 := by decide
theorem Sz.small {i : Int} (h1 : -1000 ≤ i) (h2 : i ≤ 1000) : Sz 20 i := by
  show i.natAbs < 2 ^ 20
  omega
theorem ten_sz {k : Nat} {i : Int} (h0 : 0 ≤ i) (h : i < 10 ^ (6 * k)) : Sz (20 * k) i := by
  have e : (10 : Nat) ^ (6 * k) ≤ 2 ^ (20 * k) := by
    rw [Nat.pow_mul, Nat.pow_mul]
    exact Nat.pow_le_pow_left (by decide) k
  show i.natAbs < 2 ^ (20 * k)
  have h2 : ((10 : Int) ^ (6 * k)) = (((10 : Nat) ^ (6 * k) : Nat) : Int) := by simp
  rw [h2] at h
  omega

theorem rps_all (n : Nat) : ∀ xs : List D, rps n xs = xs.all (rp n)
  | [] => by simp [rps]
  | x :: xs => by simp [rps, rps_all n xs]
mutual
theorem rp_mono : ∀ (n m : Nat) (d : D), n ≤ m → rp n d = true → rp m d = true
  | n, m, .non, _, _ => by cases m <;> simp [rp]
  | n, m, .bl b, _, _ => by cases m <;> simp [rp]
  | n, m, .int b, _, _ => by cases m <;> simp [rp]
  | n, m, .str x, _, h => by cases n <;> cases m <;> simpa [rp] using h
  | 0, m, .tup xs, _, h => by simp [rp] at h
  | 0, m, .lst xs, _, h => by simp [rp] at h
  | 0, m, .dic xs, _, h => by simp [rp] at h
  | n + 1, 0, .tup xs, e, h => absurd e (by omega)
  | n + 1, 0, .lst xs, e, h => absurd e (by omega)
  | n + 1, 0, .dic xs, e, h => absurd e (by omega)
  | n + 1, m + 1, .tup xs, e, h => by
    simp only [rp] at h ⊢
    exact rps_mono n m xs (by omega) h
  | n + 1, m + 1, .lst xs, e, h => by
    simp only [rp] at h ⊢
    exact rps_mono n m xs (by omega) h
  | n + 1, m + 1, .dic xs, e, h => by
    simp only [rp] at h ⊢
    exact rpk_mono n m xs (by omega) h
  | n, m, .obj _ _, _, h => by cases n <;> simp [rp] at h
  | n, m, .opq _, _, h => by cases n <;> simp [rp] at h
theorem rps_mono : ∀ (n m : Nat) (d : List D), n ≤ m → rps n d = true → rps m d = true
  | n, m, [], _, _ => by simp [rps]
  | n, m, x :: xs, e, h => by
    simp only [rps, Bool.and_eq_true] at h ⊢
    exact ⟨rp_mono n m x e h.1, rps_mono n m xs e h.2⟩
theorem rpk_mono : ∀ (n m : Nat) (d : List (Key × D)), n ≤ m → rpk n d = true → rpk m d = true
  | n, m, [], _, _ => by simp [rpk]
  | n, m, (.inl k, x) :: xs, e, h => by
    simp only [rpk, Bool.and_eq_true] at h ⊢
    exact ⟨rp_mono n m x e h.1, rpk_mono n m xs e h.2⟩
  | n, m, (.inr k, x) :: xs, e, h => by
    simp only [rpk, Bool.and_eq_true] at h ⊢
    exact ⟨⟨h.1.1, rp_mono n m x e h.1.2⟩, rpk_mono n m xs e h.2⟩
end
theorem rp_ty {n : Nat} {x : D} (h : rp n x = true) : (tyD x).isSome = true := by
  cases x <;> simp [tyD] <;> cases n <;> simp [rp] at h
mutual
/-- integers within are below m -/
def sm (m : Nat) : D → Bool
  | .int i => decide (i.natAbs < m)
  | .tup xs => sms m xs
  | .lst xs => sms m xs
  | .dic xs => smk m xs
  | _ => true
def sms (m : Nat) : List D → Bool
  | [] => true
  | x :: xs => sm m x && sms m xs
def smk (m : Nat) : List (Key × D) → Bool
  | [] => true
  | (.inl k, x) :: xs => decide (k.natAbs < m) && sm m x && smk m xs
  | (.inr k, x) :: xs => sm m x && smk m xs
end
mutual
theorem sm_mono : ∀ (n m : Nat) (d : D), n ≤ m → sm n d = true → sm m d = true
  | n, m, .non, _, _ => by simp [sm]
  | n, m, .bl b, _, _ => by simp [sm]
  | n, m, .int b, e, h => by
    simp only [sm, decide_eq_true_eq] at h ⊢
    omega
  | n, m, .str x, _, h => by simp [sm]
  | n, m, .tup xs, e, h => by
    simp only [sm] at h ⊢
    exact sms_mono n m xs e h
  | n, m, .lst xs, e, h => by
    simp only [sm] at h ⊢
    exact sms_mono n m xs e h
  | n, m, .dic xs, e, h => by
    simp only [sm] at h ⊢
    exact smk_mono n m xs e h
  | n, m, .obj _ _, _, h => by simp [sm]
  | n, m, .opq _, _, h => by simp [sm]
theorem sms_mono : ∀ (n m : Nat) (d : List D), n ≤ m → sms n d = true → sms m d = true
  | n, m, [], _, _ => by simp [sms]
  | n, m, x :: xs, e, h => by
    simp only [sms, Bool.and_eq_true] at h ⊢
    exact ⟨sm_mono n m x e h.1, sms_mono n m xs e h.2⟩
theorem smk_mono : ∀ (n m : Nat) (d : List (Key × D)), n ≤ m → smk n d = true → smk m d = true
  | n, m, [], _, _ => by simp [smk]
  | n, m, (.inl k, x) :: xs, e, h => by
    simp only [smk, Bool.and_eq_true, decide_eq_true_eq] at h ⊢
    exact ⟨⟨Nat.lt_of_lt_of_le h.1.1 e, sm_mono n m x e h.1.2⟩, smk_mono n m xs e h.2⟩
  | n, m, (.inr k, x) :: xs, e, h => by
    simp only [smk, Bool.and_eq_true] at h ⊢
    exact ⟨sm_mono n m x e h.1, smk_mono n m xs e h.2⟩
end
mutual
theorem sm_big : ∀ (d : D), sm (10 ^ 4300) d = true → bigOk (toPy d) = true
  | .non, _ => by simp [toPy, bigOk]
  | .bl b, _ => by simp [toPy, bigOk]
  | .int b, h => by simpa only [sm, toPy, bigOk] using h
  | .str x, h => by simp [toPy, bigOk]
  | .tup xs, h => by
    simp only [sm, toPy, bigOk] at h ⊢
    exact sms_big xs h
  | .lst xs, h => by
    simp only [sm, toPy, bigOk] at h ⊢
    exact sms_big xs h
  | .dic xs, h => by
    simp only [sm, toPy, bigOk] at h ⊢
    exact smk_big xs h
  | .obj _ _, h => by simp [toPy, bigOk]
  | .opq _, h => by simp [toPy, bigOk]
theorem sms_big : ∀ (d : List D), sms (10 ^ 4300) d = true → bigAll (toPys d) = true
  | [], _ => by simp [toPys, bigAll]
  | x :: xs, h => by
    simp only [sms, toPys, bigAll, Bool.and_eq_true] at h ⊢
    exact ⟨sm_big x h.1, sms_big xs h.2⟩
theorem smk_big : ∀ (d : List (Key × D)), smk (10 ^ 4300) d = true → bigKv (toPyK d) = true
  | [], _ => by simp [toPyK, bigKv]
  | (.inl k, x) :: xs, h => by
    simp only [smk, toPyK, bigKv, bigOk, Bool.and_eq_true] at h ⊢
    exact ⟨⟨h.1.1, sm_big x h.1.2⟩, smk_big xs h.2⟩
  | (.inr k, x) :: xs, h => by
    simp only [smk, toPyK, bigKv, bigOk, Bool.and_eq_true] at h ⊢
    exact ⟨⟨trivial, sm_big x h.1⟩, smk_big xs h.2⟩
end
/-- data at most n deep, integers below 2 ^ m, a repr of at most s signs -/
structure Pok (n m s : Nat) (x : D) : Prop where
  r : rp n x = true
  b : sm (2 ^ m) x = true
  z : rsz x ≤ s
theorem Pok.up {n m s n' m' s' : Nat} {x : D} (h : Pok n m s x) (e1 : n ≤ n') (e2 : m ≤ m') (e3 : s ≤ s') : Pok n' m' s' x := ⟨rp_mono _ _ _ e1 h.r, sm_mono _ _ _ (Nat.pow_le_pow_right (by decide) e2) h.b, Nat.le_trans h.z e3⟩
theorem Pok.ty {n m s : Nat} {x : D} (h : Pok n m s x) : (tyD x).isSome = true := rp_ty h.r
theorem pw4300 : (2 : Nat) ^ 14000 ≤ 10 ^ 4300 := by decide +kernel
theorem Pok.rok {n m s : Nat} {x : D} (h : Pok n m s x) (e1 : n ≤ 64) (e2 : m ≤ 14000) (e3 : s ≤ 16000000) (nd : isDct (toPy x) = false) : Rok x :=
  ⟨rp_mono _ _ _ e1 h.r, nd, sm_big _ (sm_mono _ _ _ (Nat.le_trans (Nat.pow_le_pow_right (by decide) e2) pw4300) h.b), Nat.le_trans h.z e3⟩
theorem pok_tup {n m : Nat} {xs : List D} (h1 : rps n xs = true) (h2 : sms (2 ^ m) xs = true) : Pok (n + 1) m (rszs xs + 3) (.tup xs) := ⟨by simpa only [rp] using h1, by simpa only [sm] using h2, by simp [rsz]⟩
theorem Sz.sm {n : Nat} {i : Int} (h : Sz n i) : sm (2 ^ n) (.int i) = true := by
  simp only [ND.sm, decide_eq_true_eq]
  exact h
theorem pok_int {m : Nat} {i : Int} (h : Sz m i) : Pok 0 m 4301 (.int i) := ⟨by simp [rp], h.sm, by simp [rsz]⟩
def look3 (l : List (Str × Str × Bool)) (a b : Str) : Option Bool := (l.find? fun e => e.1 == a && e.2.1 == b).map fun e => e.2.2
theorem look3_mem {l : List (Str × Str × Bool)} {a b : Str} {r : Bool} (h : look3 l a b = some r) : (a, b, r) ∈ l := by
  unfold look3 at h
  obtain ⟨⟨x, y, z⟩, e, rfl⟩ := Option.map_eq_some_iff.mp h
  have h1 := List.find?_some e
  simp only [Bool.and_eq_true, beq_iff_eq] at h1
  obtain ⟨rfl, rfl⟩ := h1
  exact List.mem_of_find?_eq_some e
theorem tabIn_of {K : PySem.W.Frag} {x : Str} {f c P : Addr} {fd : FuncData} {oc tc : Value} {od td : Option Addr} {sl ts : Array (Option Value)} {tv : Array Value} (a : PySem.W.nsIn K mainGlobals x = some (some (.ref f))) (l : K.lookup f = some ⟨oc, od, .func fd, sl⟩)
    (hc : fd.code = .ref c) (t : K.lookup c = some ⟨tc, td, .fields tv, ts⟩) (e : tv[11]? = some (.ref P)) : PySem.W.tabIn K x = some (c, P) := by
  unfold PySem.W.tabIn
  simp only [a, l, hc, t, e]
end ND

/-! ND27: a shown text has good signs -/
namespace ND
open PySem PySem.Spec L2 PySem.Builtin.Str
def Good (x : Str) : Prop := ∀ c ∈ x.cps.toList, c < 0x110000
theorem good_iff {x : Str} : PyData.strOk x = true ↔ Good x := by
  unfold PyData.strOk Good
  rw [← Array.all_toList, List.all_eq_true]
  exact ⟨fun h c m => of_decide_eq_true (h c m), fun h c m => decide_eq_true (h c m)⟩
theorem Good.app {x y : Str} (h : Good x) (k : Good y) : Good (x ++ y) := fun c m => by
  have e : (x ++ y).cps.toList = x.cps.toList ++ y.cps.toList := by
    show (x.cps ++ y.cps).toList = _
    exact Array.toList_append
  rw [e] at m
  exact (List.mem_append.mp m).elim (h c) (k c)
theorem good_of (s : String) : Good (Str.ofString s) := fun c m => by
  rw [Str.ofString_eq_toList] at m
  obtain ⟨a, _, rfl⟩ := List.mem_map.mp (by simpa using m)
  have := a.valid
  simp only [UInt32.isValidChar, Nat.isValidChar] at this
  show a.val.toNat < 0x110000
  omega
theorem good_join {s : Str} (h : Good s) : ∀ ts : List Str, (∀ t ∈ ts, Good t) → Good (Str.join s ts)
  | [], _ => fun c m => by simp [Str.join, Str.empty] at m
  | [x], k => k x (List.mem_singleton_self _)
  | x :: y :: r, k => ((k x List.mem_cons_self).app h).app (good_join h (y :: r) fun t m => k t (List.mem_cons_of_mem _ m))
theorem good_from : ∀ (ts : List Str) (k : Nat) (acc : Str), Good acc → (∀ t ∈ ts, Good t) → Good (textFrom k acc ts)
  | [], _, _, h, _ => h
  | t :: r, k, acc, h, z => good_from r (k + 1) _ ((h.app (good_of _)).app (z t List.mem_cons_self)) fun u m => z u (List.mem_cons_of_mem _ m)
theorem digits_good (w c d : Nat) (m : d ∈ List.replicate (w - ((Nat.toDigits 16 c).map Char.toNat).length) 48 ++ (Nat.toDigits 16 c).map Char.toNat) : d < 0x110000 := by
  rcases List.mem_append.mp m with h | h
  · rw [List.eq_of_mem_replicate h]
    decide
  · obtain ⟨a, _, rfl⟩ := List.mem_map.mp h
    have := a.valid
    simp only [UInt32.isValidChar, Nat.isValidChar] at this
    show a.val.toNat < 0x110000
    omega
theorem reprChar_good {q c : Nat} (hq : q < 0x110000) (hc : c < 0x110000) : ∀ d ∈ Builtin.Str.reprChar q c, d < 0x110000 := by
  intro d m
  unfold Builtin.Str.reprChar at m
  dsimp only at m
  repeat' split at m
  all_goals first
    | (simp only [List.mem_cons, List.not_mem_nil, or_false] at m; omega)
    | (rcases List.mem_append.mp m with h | h
       · simp only [List.mem_cons, List.not_mem_nil, or_false] at h
         omega
       · exact digits_good _ _ _ h)
theorem foldl_good {q : Nat} (hq : q < 0x110000) : ∀ (l : List Nat) (acc : Array Nat), (∀ c ∈ l, c < 0x110000) → (∀ c ∈ acc.toList, c < 0x110000) → ∀ c ∈ (l.foldl (fun out c => out ++ (Builtin.Str.reprChar q c).toArray) acc).toList, c < 0x110000
  | [], acc, _, h => h
  | x :: r, acc, k, h => foldl_good hq r _ (fun c m => k c (List.mem_cons_of_mem _ m)) fun c m => by
    rw [Array.toList_append] at m
    rcases List.mem_append.mp m with z | z
    · exact h c z
    · exact reprChar_good hq (k x List.mem_cons_self) c (by simpa using z)
theorem reprText_good {x : Str} (h : Good x) : Good (reprText x) := fun c m => by
  have hq : reprQuote x < 0x110000 := by
    unfold reprQuote
    split <;> decide
  unfold reprText at m
  simp only [Array.toList_push, List.mem_append, List.mem_singleton, ← Array.foldl_toList] at m
  rcases m with m | m
  · refine foldl_good hq x.cps.toList _ h (fun d z => ?_) c m
    simp at z
    omega
  · omega
theorem good_tuple {ts : List Str} (h : ∀ t ∈ ts, Good t) : Good (tupleText ts) := by
  unfold tupleText
  exact ((good_of _).app (good_join (good_of _) ts h)).app (good_of _)
theorem good_list {ts : List Str} (h : ∀ t ∈ ts, Good t) : Good (listText ts) := (good_from ts 0 _ (good_of _) h).app (good_of _)
theorem good_dict {ts : List Str} (h : ∀ t ∈ ts, Good t) : Good (dictText ts) := by
  unfold dictText
  exact ((good_of _).app (good_join (good_of _) ts h)).app (good_of _)
mutual
theorem shown_good : ∀ (n : Nat) (d : D), rp n d = true → Good (toPy d).shown
  | _, .non, _ => good_of "None"
  | _, .bl b, _ => by
    cases b
    · exact good_of "False"
    · exact good_of "True"
  | _, .int i, _ => by
    simp only [toPy, PyData.shown]
    exact good_of _
  | n, .str x, h => by
    simp only [toPy, PyData.shown]
    exact reprText_good (good_iff.mp (by cases n <;> simpa only [rp] using h))
  | 0, .tup xs, h => by simp [rp] at h
  | 0, .lst xs, h => by simp [rp] at h
  | 0, .dic xs, h => by simp [rp] at h
  | n + 1, .tup xs, h => by
    simp only [toPy, PyData.shown]
    exact good_tuple (shownAll_good n xs (by simpa only [rp] using h))
  | n + 1, .lst xs, h => by
    simp only [toPy, PyData.shown]
    exact good_list (shownAll_good n xs (by simpa only [rp] using h))
  | n + 1, .dic xs, h => by
    simp only [toPy, PyData.shown]
    exact good_dict (shownKv_good n xs (by simpa only [rp] using h))
  | n, .obj _ _, h => by simp [rp] at h
  | n, .opq _, h => by simp [rp] at h
theorem shownAll_good : ∀ (n : Nat) (xs : List D), rps n xs = true → ∀ t ∈ PyData.shownAll (toPys xs), Good t
  | _, [], _ => fun t m => by simp [toPys, PyData.shownAll] at m
  | n, x :: xs, h => by
    simp only [rps, Bool.and_eq_true] at h
    intro t m
    simp only [toPys, PyData.shownAll, List.mem_cons] at m
    rcases m with rfl | m
    · exact shown_good n x h.1
    · exact shownAll_good n xs h.2 t m
theorem shownKv_good : ∀ (n : Nat) (xs : List (Key × D)), rpk n xs = true → ∀ t ∈ PyData.shownKv (toPyK xs), Good t
  | _, [], _ => fun t m => by simp [toPyK, PyData.shownKv] at m
  | n, (.inl k, x) :: xs, h => by
    simp only [rpk, Bool.and_eq_true] at h
    intro t m
    simp only [toPyK, PyData.shownKv, List.mem_cons] at m
    rcases m with rfl | m
    · exact (Good.app (by simp only [PyData.shown]; exact good_of _) (good_of _)).app (shown_good n x h.1)
    · exact shownKv_good n xs h.2 t m
  | n, (.inr k, x) :: xs, h => by
    simp only [rpk, Bool.and_eq_true] at h
    intro t m
    simp only [toPyK, PyData.shownKv, List.mem_cons] at m
    rcases m with rfl | m
    · exact (Good.app (by simp only [PyData.shown]; exact reprText_good (good_iff.mp h.1.1)) (good_of _)).app (shown_good n x h.1.2)
    · exact shownKv_good n xs h.2 t m
end
/-- the text of a repr can be shown too -/
theorem Pok.text {n m s : Nat} {x : D} (h : Pok n m s x) (e1 : n ≤ 64) (e2 : m ≤ 14000) (e3 : s ≤ 1500000) : Rok (.str (toPy x).shown) := by
  have hl : (toPy x).shown.length ≤ rsz x := shown_rsz _ _ h.r (sm_big _ (sm_mono _ _ _ (Nat.le_trans (Nat.pow_le_pow_right (by decide) e2) pw4300) h.b))
  refine ⟨?_, by simp [toPy, isDct], by simp [toPy, bigOk], ?_⟩
  · simp only [rp]
    exact good_iff.mpr (shown_good _ _ h.r)
  · simp only [rsz]
    have := h.z
    have e : (toPy x).shown.length = (toPy x).shown.cps.size := rfl
    omega
@[simp] theorem szl0 : (0 < sizeLine) = True := eq_true (by decide)
@[simp] theorem sze0 : (0 ≤ sizeLine) = True := eq_true (by decide)
@[simp] theorem szl1 : (1 < sizeLine) = True := eq_true (by decide)
@[simp] theorem sze1 : (1 ≤ sizeLine) = True := eq_true (by decide)
@[simp] theorem szl2 : (2 < sizeLine) = True := eq_true (by decide)
@[simp] theorem sze2 : (2 ≤ sizeLine) = True := eq_true (by decide)
@[simp] theorem szl3 : (3 < sizeLine) = True := eq_true (by decide)
@[simp] theorem sze3 : (3 ≤ sizeLine) = True := eq_true (by decide)
@[simp] theorem szl4 : (4 < sizeLine) = True := eq_true (by decide)
@[simp] theorem sze4 : (4 ≤ sizeLine) = True := eq_true (by decide)
@[simp] theorem szl5 : (5 < sizeLine) = True := eq_true (by decide)
@[simp] theorem sze5 : (5 ≤ sizeLine) = True := eq_true (by decide)
@[simp] theorem szl6 : (6 < sizeLine) = True := eq_true (by decide)
@[simp] theorem sze6 : (6 ≤ sizeLine) = True := eq_true (by decide)
@[simp] theorem szl7 : (7 < sizeLine) = True := eq_true (by decide)
@[simp] theorem sze7 : (7 ≤ sizeLine) = True := eq_true (by decide)
@[simp] theorem szl8 : (8 < sizeLine) = True := eq_true (by decide)
@[simp] theorem sze8 : (8 ≤ sizeLine) = True := eq_true (by decide)
@[simp] theorem szl9 : (9 < sizeLine) = True := eq_true (by decide)
@[simp] theorem sze9 : (9 ≤ sizeLine) = True := eq_true (by decide)
@[simp] theorem szl10 : (10 < sizeLine) = True := eq_true (by decide)
@[simp] theorem sze10 : (10 ≤ sizeLine) = True := eq_true (by decide)
@[simp] theorem szl11 : (11 < sizeLine) = True := eq_true (by decide)
@[simp] theorem sze11 : (11 ≤ sizeLine) = True := eq_true (by decide)
@[simp] theorem szl12 : (12 < sizeLine) = True := eq_true (by decide)
@[simp] theorem sze12 : (12 ≤ sizeLine) = True := eq_true (by decide)
@[simp] theorem szl13 : (13 < sizeLine) = True := eq_true (by decide)
@[simp] theorem sze13 : (13 ≤ sizeLine) = True := eq_true (by decide)
@[simp] theorem szl14 : (14 < sizeLine) = True := eq_true (by decide)
@[simp] theorem sze14 : (14 ≤ sizeLine) = True := eq_true (by decide)
@[simp] theorem szl15 : (15 < sizeLine) = True := eq_true (by decide)
@[simp] theorem sze15 : (15 ≤ sizeLine) = True := eq_true (by decide)
@[simp] theorem szl16 : (16 < sizeLine) = True := eq_true (by decide)
@[simp] theorem sze16 : (16 ≤ sizeLine) = True := eq_true (by decide)
@[simp] theorem szl17 : (17 < sizeLine) = True := eq_true (by decide)
@[simp] theorem sze17 : (17 ≤ sizeLine) = True := eq_true (by decide)
@[simp] theorem szl18 : (18 < sizeLine) = True := eq_true (by decide)
@[simp] theorem sze18 : (18 ≤ sizeLine) = True := eq_true (by decide)
@[simp] theorem szl19 : (19 < sizeLine) = True := eq_true (by decide)
@[simp] theorem sze19 : (19 ≤ sizeLine) = True := eq_true (by decide)
@[simp] theorem szl20 : (20 < sizeLine) = True := eq_true (by decide)
@[simp] theorem sze20 : (20 ≤ sizeLine) = True := eq_true (by decide)
@[simp] theorem szl21 : (21 < sizeLine) = True := eq_true (by decide)
@[simp] theorem sze21 : (21 ≤ sizeLine) = True := eq_true (by decide)
@[simp] theorem szl22 : (22 < sizeLine) = True := eq_true (by decide)
@[simp] theorem sze22 : (22 ≤ sizeLine) = True := eq_true (by decide)
@[simp] theorem szl23 : (23 < sizeLine) = True := eq_true (by decide)
@[simp] theorem sze23 : (23 ≤ sizeLine) = True := eq_true (by decide)
@[simp] theorem szl24 : (24 < sizeLine) = True := eq_true (by decide)
@[simp] theorem sze24 : (24 ≤ sizeLine) = True := eq_true (by decide)
@[simp] theorem szl25 : (25 < sizeLine) = True := eq_true (by decide)
@[simp] theorem sze25 : (25 ≤ sizeLine) = True := eq_true (by decide)
@[simp] theorem szl26 : (26 < sizeLine) = True := eq_true (by decide)
@[simp] theorem sze26 : (26 ≤ sizeLine) = True := eq_true (by decide)
@[simp] theorem szl27 : (27 < sizeLine) = True := eq_true (by decide)
@[simp] theorem sze27 : (27 ≤ sizeLine) = True := eq_true (by decide)
@[simp] theorem szl28 : (28 < sizeLine) = True := eq_true (by decide)
@[simp] theorem sze28 : (28 ≤ sizeLine) = True := eq_true (by decide)
@[simp] theorem szl29 : (29 < sizeLine) = True := eq_true (by decide)
@[simp] theorem sze29 : (29 ≤ sizeLine) = True := eq_true (by decide)
@[simp] theorem szl30 : (30 < sizeLine) = True := eq_true (by decide)
@[simp] theorem sze30 : (30 ≤ sizeLine) = True := eq_true (by decide)
@[simp] theorem szl31 : (31 < sizeLine) = True := eq_true (by decide)
@[simp] theorem sze31 : (31 ≤ sizeLine) = True := eq_true (by decide)
@[simp] theorem szl32 : (32 < sizeLine) = True := eq_true (by decide)
@[simp] theorem sze32 : (32 ≤ sizeLine) = True := eq_true (by decide)
@[simp] theorem szl33 : (33 < sizeLine) = True := eq_true (by decide)
@[simp] theorem sze33 : (33 ≤ sizeLine) = True := eq_true (by decide)
@[simp] theorem szl34 : (34 < sizeLine) = True := eq_true (by decide)
@[simp] theorem sze34 : (34 ≤ sizeLine) = True := eq_true (by decide)
@[simp] theorem szl35 : (35 < sizeLine) = True := eq_true (by decide)
@[simp] theorem sze35 : (35 ≤ sizeLine) = True := eq_true (by decide)
@[simp] theorem szl36 : (36 < sizeLine) = True := eq_true (by decide)
@[simp] theorem sze36 : (36 ≤ sizeLine) = True := eq_true (by decide)
@[simp] theorem szl37 : (37 < sizeLine) = True := eq_true (by decide)
@[simp] theorem sze37 : (37 ≤ sizeLine) = True := eq_true (by decide)
@[simp] theorem szl38 : (38 < sizeLine) = True := eq_true (by decide)
@[simp] theorem sze38 : (38 ≤ sizeLine) = True := eq_true (by decide)
@[simp] theorem szl39 : (39 < sizeLine) = True := eq_true (by decide)
@[simp] theorem sze39 : (39 ≤ sizeLine) = True := eq_true (by decide)
@[simp] theorem szl40 : (40 < sizeLine) = True := eq_true (by decide)
@[simp] theorem sze40 : (40 ≤ sizeLine) = True := eq_true (by decide)
@[simp] theorem szl41 : (41 < sizeLine) = True := eq_true (by decide)
@[simp] theorem sze41 : (41 ≤ sizeLine) = True := eq_true (by decide)
@[simp] theorem szl42 : (42 < sizeLine) = True := eq_true (by decide)
@[simp] theorem sze42 : (42 ≤ sizeLine) = True := eq_true (by decide)
@[simp] theorem szl43 : (43 < sizeLine) = True := eq_true (by decide)
@[simp] theorem sze43 : (43 ≤ sizeLine) = True := eq_true (by decide)
@[simp] theorem szl44 : (44 < sizeLine) = True := eq_true (by decide)
@[simp] theorem sze44 : (44 ≤ sizeLine) = True := eq_true (by decide)
@[simp] theorem szl45 : (45 < sizeLine) = True := eq_true (by decide)
@[simp] theorem sze45 : (45 ≤ sizeLine) = True := eq_true (by decide)
@[simp] theorem szl46 : (46 < sizeLine) = True := eq_true (by decide)
@[simp] theorem sze46 : (46 ≤ sizeLine) = True := eq_true (by decide)
@[simp] theorem szl47 : (47 < sizeLine) = True := eq_true (by decide)
@[simp] theorem sze47 : (47 ≤ sizeLine) = True := eq_true (by decide)
@[simp] theorem szl48 : (48 < sizeLine) = True := eq_true (by decide)
@[simp] theorem sze48 : (48 ≤ sizeLine) = True := eq_true (by decide)
@[simp] theorem szl49 : (49 < sizeLine) = True := eq_true (by decide)
@[simp] theorem sze49 : (49 ≤ sizeLine) = True := eq_true (by decide)
@[simp] theorem szl50 : (50 < sizeLine) = True := eq_true (by decide)
@[simp] theorem sze50 : (50 ≤ sizeLine) = True := eq_true (by decide)
@[simp] theorem szl51 : (51 < sizeLine) = True := eq_true (by decide)
@[simp] theorem sze51 : (51 ≤ sizeLine) = True := eq_true (by decide)
@[simp] theorem szl52 : (52 < sizeLine) = True := eq_true (by decide)
@[simp] theorem sze52 : (52 ≤ sizeLine) = True := eq_true (by decide)
@[simp] theorem szl53 : (53 < sizeLine) = True := eq_true (by decide)
@[simp] theorem sze53 : (53 ≤ sizeLine) = True := eq_true (by decide)
@[simp] theorem szl54 : (54 < sizeLine) = True := eq_true (by decide)
@[simp] theorem sze54 : (54 ≤ sizeLine) = True := eq_true (by decide)
@[simp] theorem szl55 : (55 < sizeLine) = True := eq_true (by decide)
@[simp] theorem sze55 : (55 ≤ sizeLine) = True := eq_true (by decide)
@[simp] theorem szl56 : (56 < sizeLine) = True := eq_true (by decide)
@[simp] theorem sze56 : (56 ≤ sizeLine) = True := eq_true (by decide)
@[simp] theorem szl57 : (57 < sizeLine) = True := eq_true (by decide)
@[simp] theorem sze57 : (57 ≤ sizeLine) = True := eq_true (by decide)
@[simp] theorem szl58 : (58 < sizeLine) = True := eq_true (by decide)
@[simp] theorem sze58 : (58 ≤ sizeLine) = True := eq_true (by decide)
@[simp] theorem szl59 : (59 < sizeLine) = True := eq_true (by decide)
@[simp] theorem sze59 : (59 ≤ sizeLine) = True := eq_true (by decide)
@[simp] theorem szl60 : (60 < sizeLine) = True := eq_true (by decide)
@[simp] theorem sze60 : (60 ≤ sizeLine) = True := eq_true (by decide)
@[simp] theorem szl61 : (61 < sizeLine) = True := eq_true (by decide)
@[simp] theorem sze61 : (61 ≤ sizeLine) = True := eq_true (by decide)
@[simp] theorem szl62 : (62 < sizeLine) = True := eq_true (by decide)
@[simp] theorem sze62 : (62 ≤ sizeLine) = True := eq_true (by decide)
@[simp] theorem szl63 : (63 < sizeLine) = True := eq_true (by decide)
@[simp] theorem sze63 : (63 ≤ sizeLine) = True := eq_true (by decide)
@[simp] theorem szl64 : (64 < sizeLine) = True := eq_true (by decide)
@[simp] theorem sze64 : (64 ≤ sizeLine) = True := eq_true (by decide)
@[simp] theorem szl65 : (65 < sizeLine) = True := eq_true (by decide)
@[simp] theorem sze65 : (65 ≤ sizeLine) = True := eq_true (by decide)
@[simp] theorem szl66 : (66 < sizeLine) = True := eq_true (by decide)
@[simp] theorem sze66 : (66 ≤ sizeLine) = True := eq_true (by decide)
@[simp] theorem szl67 : (67 < sizeLine) = True := eq_true (by decide)
@[simp] theorem sze67 : (67 ≤ sizeLine) = True := eq_true (by decide)
@[simp] theorem szl68 : (68 < sizeLine) = True := eq_true (by decide)
@[simp] theorem sze68 : (68 ≤ sizeLine) = True := eq_true (by decide)
@[simp] theorem szl69 : (69 < sizeLine) = True := eq_true (by decide)
@[simp] theorem sze69 : (69 ≤ sizeLine) = True := eq_true (by decide)
@[simp] theorem ix_t0 (a : D) (r : List D) (Q : D → Prop) : ixD (.tup (a :: r)) (.int 0) Q = Q a := by simp [ixD, atI, ixN]
@[simp] theorem ix_t1 (a b : D) (r : List D) (Q : D → Prop) : ixD (.tup (a :: b :: r)) (.int 1) Q = Q b := by
  have h : (1 : Int) < (r.length : Int) + 1 + 1 := by omega
  simp [ixD, atI, ixN, h]
@[simp] theorem ix_t2 (a b c : D) (r : List D) (Q : D → Prop) : ixD (.tup (a :: b :: c :: r)) (.int 2) Q = Q c := by
  have h : (2 : Int) < (r.length : Int) + 1 + 1 + 1 := by omega
  simp [ixD, atI, ixN, h]
@[simp] theorem ix_l0 (a : D) (r : List D) (Q : D → Prop) : ixD (.lst (a :: r)) (.int 0) Q = Q a := by simp [ixD, atI, ixN]
@[simp] theorem ix_l1 (a b : D) (r : List D) (Q : D → Prop) : ixD (.lst (a :: b :: r)) (.int 1) Q = Q b := by
  have h : (1 : Int) < (r.length : Int) + 1 + 1 := by omega
  simp [ixD, atI, ixN, h]
@[simp] theorem ix_l2 (a b c : D) (r : List D) (Q : D → Prop) : ixD (.lst (a :: b :: c :: r)) (.int 2) Q = Q c := by
  have h : (2 : Int) < (r.length : Int) + 1 + 1 + 1 := by omega
  simp [ixD, atI, ixN, h]
end ND

/-! ND28: what an expression is, where it can be only one thing -/
namespace ND
open PySem PySem.Spec L2
structure Ev (σ : List SV) (f : GE) (x : D) : Prop where
  run : ∀ Q : D → Prop, Q x → f σ Q
structure EvA (σ : List SV) (f : GA) (x : List D) : Prop where
  run : ∀ Q : List D → Prop, Q x → f σ Q
section
variable {σ : List SV} {f g : GE} {fs : GA} {x y : D} {xs ys : List D} {i j : Int}
theorem Ev.c : Ev σ (gC x) x := ⟨fun _ q => q⟩
theorem EvA.nil : EvA σ ND.gNil [] := ⟨fun _ q => q⟩
theorem EvA.cons (h : Ev σ f x) (k : EvA σ fs xs) : EvA σ (ND.gCons f fs) (x :: xs) := ⟨fun Q q => h.run _ (k.run _ q)⟩
theorem Ev.tup (h : EvA σ fs xs) (hl : xs.length ≤ sizeLine) : Ev σ (ND.gTup fs) (.tup xs) := ⟨fun Q q => h.run _ ⟨hl, q⟩⟩
theorem Ev.lst (h : EvA σ fs xs) (hl : xs.length ≤ sizeLine) : Ev σ (gFrz (gLst fs)) (.lst xs) := ⟨fun Q q => h.run _ ⟨hl, q⟩⟩
theorem Ev.neg (h : Ev σ f (.int i)) : Ev σ (gUn negD f) (.int (-i)) := ⟨fun Q q => h.run _ q⟩
theorem Ev.dic {k : Key} (h : Ev σ f x) : Ev σ (gDic1 k f) (.dic [(k, x)]) := ⟨fun Q q => h.run _ q⟩
variable {s s' : GS} {E : Ed}
end
end ND

/-! ND29: zip of two tuples or two lists -/
namespace ND
open PySem PySem.Spec L2
section
variable {B : Bs} {X : Cx} {e e2 : Expr} {pos : Pos}
def zipL (xs ys : List D) : List D := List.zipWith (fun x y => .tup [x, y]) xs ys
theorem zipL_at {xs ys : List D} {i : Nat} {d : D} (h : (zipL xs ys)[i]? = some d) : ∃ x y, xs[i]? = some x ∧ ys[i]? = some y ∧ d = .tup [x, y] := by
  unfold zipL at h
  rw [List.getElem?_zipWith] at h
  cases hx : xs[i]? with
  | none => simp [hx] at h
  | some x =>
    cases hy : ys[i]? with
    | none => simp [hx, hy] at h
    | some y =>
      simp [hx, hy] at h
      exact ⟨x, y, rfl, rfl, h.symm⟩
theorem itOk_zipT {K : Kn} {a b : Addr} {vs us : List V} {xs ys : List D} {F : Hp} (h : SqT K.K F a vs) (r : Reps K F vs xs) (h2 : SqT K.K F b us) (r2 : Reps K F us ys) : ItOk B K (RZ.ItzT K.K a b) (zipL xs ys) F := by
  refine ⟨fun F' H' i d e1 e2 dk hd => ?_, fun F' H' i e1 e2 hi => ⟨vs, us, same_t e2 (same_t e1 h), same_t e2 (same_t e1 h2), by
    rw [r.length, r2.length]
    simp only [zipL, List.length_zipWith] at hi
    omega⟩⟩
  obtain ⟨x, y, hx, hy, rfl⟩ := zipL_at hd
  have ha : SqT K.K H' a vs := same_t e2 (same_t e1 h)
  have hb : SqT K.K H' b us := same_t e2 (same_t e1 h2)
  obtain ⟨v, hv, rv⟩ := r.get hx
  obtain ⟨u, hu, ru⟩ := r2.get hy
  refine ⟨⟨vs, us, v, u, ha, hb, hv, hu⟩, fun z H'' ⟨T, v', u', e, hT, eH, fv, fu⟩ => ?_⟩
  subst e eH
  have z1 := fv vs ha
  rw [hv] at z1
  cases z1
  have z2 := fu us hb
  rw [hu] at z2
  cases z2
  have fT := e2.free hT
  exact ⟨_, Grow.frz e2 hT, dk.frz hT, .tup (SqT.of upd_same) (.cons ((rv.mono e1).mono (same_new fT)) (.cons ((ru.mono e1).mono (same_new fT)) .nil))⟩
theorem itOk_zipL {K : Kn} {a b : Addr} {vs us : List V} {xs ys : List D} {F : Hp} (h : F a = some (.lst vs)) (r : Reps K F vs xs) (h2 : F b = some (.lst us)) (r2 : Reps K F us ys) : ItOk B K (Itz K.K a b) (zipL xs ys) F := by
  refine ⟨fun F' H' i d e1 e2 dk hd => ?_, fun F' H' i e1 e2 hi => ⟨vs, us, SqL.of (e2 _ _ (e1 _ _ h)), SqL.of (e2 _ _ (e1 _ _ h2)), by
    rw [r.length, r2.length]
    simp only [zipL, List.length_zipWith] at hi
    omega⟩⟩
  obtain ⟨x, y, hx, hy, rfl⟩ := zipL_at hd
  have ha : SqL K.K H' a vs := SqL.of (e2 _ _ (e1 _ _ h))
  have hb : SqL K.K H' b us := SqL.of (e2 _ _ (e1 _ _ h2))
  obtain ⟨v, hv, rv⟩ := r.get hx
  obtain ⟨u, hu, ru⟩ := r2.get hy
  refine ⟨⟨vs, us, v, u, ha, hb, hv, hu⟩, fun z H'' ⟨T, v', u', e, hT, eH, fv, fu⟩ => ?_⟩
  subst e eH
  have z1 := fv vs ha
  rw [hv] at z1
  cases z1
  have z2 := fu us hb
  rw [hu] at z2
  cases z2
  have fT := e2.free hT
  exact ⟨_, Grow.frz e2 hT, dk.frz hT, .tup (SqT.of upd_same) (.cons ((rv.mono e1).mono (same_new fT)) (.cons ((ru.mono e1).mono (same_new fT)) .nil))⟩
def zipD (ds : List D) (Q : List D → Prop) : Prop := (∃ xs ys, ds = [.tup xs, .tup ys] ∧ Q (zipL xs ys)) ∨ ∃ xs ys, ds = [.lst xs, .lst ys] ∧ Q (zipL xs ys)
@[simp] theorem zipD_t (xs ys : List D) (Q : List D → Prop) : zipD [.tup xs, .tup ys] Q ↔ Q (zipL xs ys) := ⟨fun h => by
  rcases h with ⟨_, _, e, q⟩ | ⟨_, _, e, q⟩ <;> cases e <;> exact q, fun q => .inl ⟨_, _, rfl, q⟩⟩
@[simp] theorem zipD_l (xs ys : List D) (Q : List D → Prop) : zipD [.lst xs, .lst ys] Q ↔ Q (zipL xs ys) := ⟨fun h => by
  rcases h with ⟨_, _, e, q⟩ | ⟨_, _, e, q⟩ <;> cases e <;> exact q, fun q => .inr ⟨_, _, rfl, q⟩⟩
@[simp] def gZip (fs : GA) (σ : List SV) (Q : List D → Prop) : Prop := fs σ fun ds => zipD ds Q
theorem pid_zip {p tpos : Pos} {elts : List Expr} {kk : Nat} {fs : GA} (hg : Gl X "zip") (hm : X.mg "zip" = none) (ha : AD B X [e, e2] fs)
    (hs : starEach [e, e2] X.env = (false, eval e X.env) :: starEach [e2] X.env := by rfl) (hpl : (backTo pos (starEach [e2] X.env)).any (·.1) = false := by rfl) :
    PID B X (.Tuple elts kk tpos) (.Call (.Name "zip" p) [e, e2] [] pos) (gZip fs) :=
  ⟨pi_imp (RZ.pi_zipA hg hm ha.run hs hpl) fun s H R ⟨σ, F, Qd, Rl, q, k⟩ => ⟨σ, F, _, Rl, q, fun ds qd F1 H1 vs g1 d1 r1 => by
    rcases qd with ⟨xs, ys, rfl, qd⟩ | ⟨xs, ys, rfl, qd⟩
    · cases r1 with
      | cons ra rr =>
        cases rr with
        | cons rb rr =>
          cases rr
          cases ra with
          | tup h r =>
            cases rb with
            | tup h2 r2 => exact ⟨_, _, _, _, rfl, .inr ⟨same_t g1.fh h, same_t g1.fh h2, k _ qd F1 H1 _ g1 d1 (itOk_zipT h r h2 r2)⟩⟩
    · cases r1 with
      | cons ra rr =>
        cases rr with
        | cons rb rr =>
          cases rr
          cases ra with
          | lst h r =>
            cases rb with
            | lst h2 r2 => exact ⟨_, _, _, _, rfl, .inl ⟨SqL.of (g1.fh _ _ h), SqL.of (g1.fh _ _ h2), k _ qd F1 H1 _ g1 d1 (itOk_zipL h r h2 r2)⟩⟩⟩⟩
end
end ND

/-! ND30: rows of five, corners, outcomes, evaluation (first written for k13) -/
namespace ND
open PySem PySem.Spec L2
def isI : D → Bool | .int _ => true | _ => false
def nOf : D → Int | .int i => i | _ => 0
def isFive : D → Bool
  | .tup xs => decide (xs.length = 5) && xs.all isI
  | _ => false
def sumN : D → Int
  | .tup xs => (xs.map nOf).sum
  | _ => 0
def isCor (x : D) : Bool := isFive x && decide (1 ≤ sumN x ∧ sumN x ≤ 4)
def isDir : D → Bool
  | .int i => decide (0 ≤ i ∧ i ≤ 4)
  | _ => false
def tup5 (f : Int → Int) : D := .tup [.int (f 0), .int (f 1), .int (f 2), .int (f 3), .int (f 4)]
def sum5 (f : Int → Int) : Int := f 0 + f 1 + f 2 + f 3 + f 4
def at5 (a b c d e i : Int) : Int := if i = 0 then a else if i = 1 then b else if i = 2 then c else if i = 3 then d else e
def rz (f : Int → Int) (j u : Int) : Int → Int := fun i => f i + if i = j then u else 0
theorem five_of {j : Int} (h0 : 0 ≤ j) (h1 : j ≤ 4) : j = 0 ∨ j = 1 ∨ j = 2 ∨ j = 3 ∨ j = 4 := by omega
theorem bls_map (f : D → Bool) : ∀ xs : List D, blsOf (xs.map fun x => .bl (f x)) = some (xs.map f)
  | [] => rfl
  | x :: xs => by simp [blsOf, bls_map f xs]
theorem isI_n {x : D} (h : isI x = true) : ∃ i, x = .int i := by
  cases x with
  | int i => exact ⟨i, rfl⟩
  | _ => simp [isI] at h
theorem len3 {xs : List D} (h : xs.length = 3) : ∃ a b c, xs = [a, b, c] := by
  match xs, h with
  | [a, b, c], _ => exact ⟨a, b, c, rfl⟩
theorem ints_of : ∀ {xs : List D}, xs.all isI = true → intsOf xs = some (xs.map nOf)
  | [], _ => rfl
  | x :: xs, h => by
    simp only [List.all_cons, Bool.and_eq_true] at h
    obtain ⟨i, rfl⟩ := isI_n h.1
    simp [intsOf, ints_of h.2, nOf]
theorem five_xs {x : D} (h : isFive x = true) : ∃ xs, x = .tup xs ∧ xs.length = 5 ∧ xs.all isI = true := by
  cases x with
  | tup xs =>
    simp only [isFive, Bool.and_eq_true, decide_eq_true_eq] at h
    exact ⟨xs, rfl, h⟩
  | _ => simp [isFive] at h
theorem five_ok {xs : List D} (hl : xs.length = 5) (ha : xs.all isI = true) : isFive (.tup xs) = true := by simp [isFive, hl, ha]
theorem cor_eq {xs : List D} (hl : xs.length = 5) (ha : xs.all isI = true) : isCor (.tup xs) = decide (1 ≤ (xs.map nOf).sum ∧ (xs.map nOf).sum ≤ 4) := by
  unfold isCor
  rw [five_ok hl ha, Bool.true_and]
  rfl
theorem cor_no {x : D} (h : isFive x = false) : isCor x = false := by
  unfold isCor
  rw [h, Bool.false_and]
theorem tup5_mk (a b c d e : Int) : D.tup [.int a, .int b, .int c, .int d, .int e] = tup5 (at5 a b c d e) := by simp [tup5, at5]
theorem cor5 (f : Int → Int) : isCor (tup5 f) = decide (1 ≤ sum5 f ∧ sum5 f ≤ 4) := by
  have e : (([D.int (f 0), .int (f 1), .int (f 2), .int (f 3), .int (f 4)]).map nOf).sum = sum5 f := by
    simp [nOf, sum5]
    omega
  have := cor_eq (xs := [D.int (f 0), .int (f 1), .int (f 2), .int (f 3), .int (f 4)]) rfl rfl
  rw [e] at this
  exact this
theorem sum5_D {f : Int → Int} {Q : D → Prop} (q : Q (.int (sum5 f))) : sumD [tup5 f] Q := by
  refine ⟨_, ints_of rfl, ?_⟩
  have e : (([D.int (f 0), .int (f 1), .int (f 2), .int (f 3), .int (f 4)]).map nOf).sum = sum5 f := by
    simp [nOf, sum5]
    omega
  rw [e]
  exact q
theorem rz_sum {f : Int → Int} {j u : Int} (h0 : 0 ≤ j) (h1 : j ≤ 4) : sum5 (rz f j u) = sum5 f + u := by
  rcases five_of h0 h1 with h | h | h | h | h <;> subst h <;> simp [sum5, rz] <;> omega
theorem tup5_ext {f g : Int → Int} (h : ∀ i, 0 ≤ i → i ≤ 4 → f i = g i) : tup5 f = tup5 g := by
  unfold tup5
  rw [h 0 (by decide) (by decide), h 1 (by decide) (by decide), h 2 (by decide) (by decide), h 3 (by decide) (by decide), h 4 (by decide) (by decide)]
theorem at5_at {f : Int → Int} {i : Int} (h0 : 0 ≤ i) (h1 : i ≤ 4) : at5 (f 0) (f 1) (f 2) (f 3) (f 4) i = f i := by
  rcases five_of h0 h1 with h | h | h | h | h <;> subst h <;> simp [at5]
theorem pok_five {a b c d e : Int} (h1 : Sz 300 a) (h2 : Sz 300 b) (h3 : Sz 300 c) (h4 : Sz 300 d) (h5 : Sz 300 e) : Pok 1 300 22000 (.tup [.int a, .int b, .int c, .int d, .int e]) := by
  refine ⟨by simp [rp, rps], ?_, by simp [rsz, rszs]⟩
  simp only [sm, sms, Bool.and_eq_true, decide_eq_true_eq]
  exact ⟨h1, h2, h3, h4, h5, trivial⟩
theorem dir_n {x : D} (h : isDir x = true) : ∃ i, x = .int i ∧ 0 ≤ i ∧ i ≤ 4 := by
  cases x with
  | int i => exact ⟨i, rfl, of_decide_eq_true h⟩
  | _ => cases h
def Szf (n : Nat) (f : Int → Int) : Prop := ∀ i, 0 ≤ i → i ≤ 4 → Sz n (f i)
theorem Szf.rz {n : Nat} {f : Int → Int} {j u : Int} (h : Szf n f) (hn : 20 ≤ n) (h1 : -100 ≤ u) (h2 : u ≤ 100) : Szf (n + 1) (rz f j u) := fun i i0 i4 => by
  unfold ND.rz
  split
  · exact (h _ i0 i4).add ((Sz.small (by omega) (by omega)).mono hn)
  · exact (h _ i0 i4).add ((Sz.small (by omega) (by omega)).mono hn)
section
variable {σ : List SV} {f g h : GE} {fs : GA} {x y : D} {xs ys : List D} {W : WD} {R : Er → Prop} {s s' t : GS} {E : Ed}
theorem Ev.repr (h : Ev σ f x) (hr : Rok x) : Ev σ (gBlt reprB (ND.gCons f ND.gNil)) (.str (toPy x).shown) := ⟨fun Q q => h.run _ (hr.reprB q)⟩
theorem Ev.sum {k : Int → Int} (a : Ev σ f (tup5 k)) : Ev σ (gBlt sumD (ND.gCons f ND.gNil)) (.int (sum5 k)) := ⟨fun Q z => a.run _ (sum5_D z)⟩
theorem Ev.not {u : Bool} (a : Ev σ f (.bl u)) : Ev σ (gNot f) (.bl (!u)) := ⟨fun Q z => a.run _ (by simpa using z)⟩
end
theorem Szf.pok {n : Nat} {f : Int → Int} (h : Szf n f) (hn : n ≤ 300) : Pok 6 300 200000 (tup5 f) :=
  (pok_five ((h 0 (by decide) (by decide)).mono hn) ((h 1 (by decide) (by decide)).mono hn) ((h 2 (by decide) (by decide)).mono hn) ((h 3 (by decide) (by decide)).mono hn) ((h 4 (by decide) (by decide)).mono hn)).up (by decide) (by decide) (by decide)
theorem Szf.rok {n : Nat} {f : Int → Int} (h : Szf n f) (hn : n ≤ 300) : Rok (tup5 f) := (h.pok hn).rok (by decide) (by decide) (by decide) (by simp [tup5, toPy, isDct])
theorem seq_rng {σ : List SV} {k : Int} {gt : GG} {g s : GS} {E : Ed} (h0 : -(2 ^ 62) ≤ k) (h1 : k < 2 ^ 62) (q : forG gt g (ND.intsFrom 0 k.toNat) { E with nx := s E } σ) : gSeq (gFor (gRng1 (ND.gCons (gC (.int k)) ND.gNil)) gt g) s E σ := ⟨k, rfl, h0, h1, forL_in q⟩
end ND

/-! ND31: objects of classes of one's own: attributes, isinstance, == by one's own __eq__, makers -/
namespace ND
open PySem PySem.Spec L2
open PyProof.Rows (envOfC)

/-! ### what is known of a class -/
/-! ### o.f -/
section
variable {B : Bs} {X : Cx} {e : Expr} {f : Str} {pos p p2 p3 : Pos} {fa fb : GE} {fld : Str → Str → Bool} {known : Str → Bool} {n : Str}
/-! ### isinstance -/
/-- a value whose type is known -/
def tyX (known : Str → Bool) : D → Bool
  | .obj m _ => known m
  | x => (tyD x).isSome
/-- isinstance with a built-in type, of any value -/
def isiX (known : Str → Bool) : List D → (D → Prop) → Prop
  | [x, .opq (.ty T)], Q => knownT T = true ∧ tyX known x = true ∧ Q (.bl (isiB T x))
  | _, _ => False
end
end ND

/-! ND32: == by one's own __eq__; makers -/
namespace ND
open PySem PySem.Spec L2
open PyProof.Rows (envOfC)

/-! ### == -/
section
variable {B : Bs} {X : Cx} {known : Str → Bool} {k : Nat} {a b : Expr} {fa fb : GE} {g : D → D → (D → Prop) → Prop} {pos : Pos}
end

/-! ### makers -/
theorem RepFs.length {K : Kn} {F : Hp} : ∀ {vs : List (Str × V)} {fs : List (Str × D)}, RepFs K F vs fs → vs.length = fs.length
  | _, _, .nil => rfl
  | _, _, .cons _ t => by rw [List.length_cons, List.length_cons, RepFs.length t]
section
variable {B : Bs} {X : Cx} {fld : Str → Str → Bool} {o value : Expr} {f : Str} {pos pos' : Pos} {fe : GE} {k : Nat}
end
section
variable {P : Program} {w : World} {K : PySem.W.Frag} {mg : Str → Option Value} {base : Heap} {n qual : Str} {st : Stmt} {f C : Addr} {fd : FuncData} {N ps : List Str} {k : Nat} {sp : DSp} {g : WD → (Er → Prop) → GS} {T : List (Addr × Str)} {dvs : List V}
end

section
variable {B : Bs} {X : Cx} {k n m : Nat} {ps ks : List Str} {dfl : List D} {sp : DSp} {R : Er → Prop} {E : XK} {x qual : Str} {st : Stmt} {p pos : Pos} {e : Expr} {es : List Expr} {kws : List Keyword} {fs fk : GA} {pm : List Nat}
end
end ND

/-! ND33: sorted of tuples of integers; constants of the module -/
namespace ND
open PySem PySem.Spec L2
open PyProof.Rows (envOfC)

/-! ### the order of lists of integers -/
section
variable {prog : Program} {w : World} {A : Around} {E : Value → Shared → Prop} {s : Shared} {Q : Bool → Shared → Prop}
end

/-! ### sorted(xs), xs a list of tuples of d integers each -/
section
variable {X : Cx} {B : Bs}
end

/-! ### constants of the module -/
end ND

/-! ND34: what the printed text of a law with objects asks -/
namespace ND
open PySem PySem.Spec L2
open PyProof.Rows (envOfC)
theorem relv_int (i : Int) (t : Tok) : RelV (.int i) (.int i t) := ⟨t, rfl⟩
section
variable {P : Program} {w : World} {K : PySem.W.Frag} {mg : Str → Option Value} {base : Heap} {n qual : Str} {st : Stmt} {f C : Addr} {fd : FuncData} {k : Nat} {sp : DSp} {T : List (Addr × Str)} {known : Str → Bool}
end
end ND

/-! ND35: golden numbers (first written for k06, k07) -/
namespace ND
open PySem PySem.Spec L2
theorem five_sq : ∀ (n : Nat) (x b : Nat), b ≤ n → x * x = 5 * b * b → b = 0
  | 0, x, b, h, _ => by omega
  | n + 1, x, b, h, e => by
    have h5 : x % 5 = 0 := by
      have h1 : (x * x) % 5 = 0 := by rw [e, Nat.mul_assoc, Nat.mul_mod_right]
      rw [Nat.mul_mod] at h1
      have h2 : x % 5 < 5 := Nat.mod_lt _ (by decide)
      generalize x % 5 = y at h1 h2 ⊢
      have : y = 0 ∨ y = 1 ∨ y = 2 ∨ y = 3 ∨ y = 4 := by omega
      rcases this with h | h | h | h | h <;> subst h <;> simp_all
    obtain ⟨y, rfl⟩ : ∃ y, x = 5 * y := ⟨x / 5, by omega⟩
    have e2 : b * b = 5 * y * y := by
      have : 5 * y * (5 * y) = 5 * (5 * y * y) := by simp [Nat.mul_assoc, Nat.mul_comm, Nat.mul_left_comm]
      have h3 : 5 * b * b = 5 * (b * b) := Nat.mul_assoc _ _ _
      omega
    by_cases hb : b = 0
    · exact hb
    · have hy : y < b := by
        rcases Nat.lt_or_ge y b with h | h
        · exact h
        · have h1 := Nat.mul_le_mul h h
          have h2 : 5 * y * y = 5 * (y * y) := Nat.mul_assoc _ _ _
          have h3 : 0 < b * b := Nat.mul_pos (by omega) (by omega)
          omega
      have z := five_sq n b y (by omega) e2
      subst z
      have : b * b = 0 := by omega
      exact absurd ((Nat.mul_eq_zero.mp this).elim id id) hb
theorem no_tie {x b : Int} (hb : b ≠ 0) : x * x ≠ 5 * b * b := fun e => by
  have e2 : x.natAbs * x.natAbs = 5 * b.natAbs * b.natAbs := by
    have := congrArg Int.natAbs e
    rw [Int.natAbs_mul, Int.natAbs_mul, Int.natAbs_mul] at this
    exact this
  have := five_sq b.natAbs x.natAbs b.natAbs (Nat.le_refl _) e2
  omega

abbrev tri (a b m : Int) : D := .tup [.int a, .int b, .int m]
/-- the common divisor with the sign of d -/
def cdv (a b d : Int) : Int := if d < 0 then -((Nat.gcd (Nat.gcd a.natAbs b.natAbs) d.natAbs : Nat) : Int) else ((Nat.gcd (Nat.gcd a.natAbs b.natAbs) d.natAbs : Nat) : Int)
/-- the reduced number -/
def red (a b d : Int) : D := tri (a.fdiv (cdv a b d)) (b.fdiv (cdv a b d)) (d.fdiv (cdv a b d))
theorem cdv_ne {a b d : Int} (h : d ≠ 0) : cdv a b d ≠ 0 := by
  have : 0 < Nat.gcd (Nat.gcd a.natAbs b.natAbs) d.natAbs := Nat.gcd_pos_of_pos_right _ (Int.natAbs_pos.mpr h)
  unfold cdv
  split <;> omega
theorem cdv_dvd (a b d : Int) : cdv a b d ∣ a ∧ cdv a b d ∣ b ∧ cdv a b d ∣ d := by
  have h1 : (((Nat.gcd (Nat.gcd a.natAbs b.natAbs) d.natAbs : Nat) : Int)) ∣ a := Int.ofNat_dvd_left.mpr (Nat.dvd_trans (Nat.gcd_dvd_left _ _) (Nat.gcd_dvd_left _ _))
  have h2 : (((Nat.gcd (Nat.gcd a.natAbs b.natAbs) d.natAbs : Nat) : Int)) ∣ b := Int.ofNat_dvd_left.mpr (Nat.dvd_trans (Nat.gcd_dvd_left _ _) (Nat.gcd_dvd_right _ _))
  have h3 : (((Nat.gcd (Nat.gcd a.natAbs b.natAbs) d.natAbs : Nat) : Int)) ∣ d := Int.ofNat_dvd_left.mpr (Nat.gcd_dvd_right _ _)
  unfold cdv
  split
  · exact ⟨Int.neg_dvd.mpr h1, Int.neg_dvd.mpr h2, Int.neg_dvd.mpr h3⟩
  · exact ⟨h1, h2, h3⟩
theorem fdiv_sz {n : Nat} {a c : Int} (h : Sz n a) (hd : c ∣ a) (hc : c ≠ 0) : Sz n (a.fdiv c) := by
  obtain ⟨k, rfl⟩ := hd
  rw [Int.mul_fdiv_cancel_left _ hc]
  have h1 : (c * k).natAbs < 2 ^ n := h
  rw [Int.natAbs_mul] at h1
  have : 1 ≤ c.natAbs := Int.natAbs_pos.mpr hc
  exact Nat.lt_of_le_of_lt (Nat.le_mul_of_pos_left _ this) h1
theorem cdv_sign {a b d : Int} (h : d ≠ 0) : (d < 0 ∧ cdv a b d < 0) ∨ (0 < d ∧ 0 < cdv a b d) := by
  have : 0 < Nat.gcd (Nat.gcd a.natAbs b.natAbs) d.natAbs := Nat.gcd_pos_of_pos_right _ (Int.natAbs_pos.mpr h)
  unfold cdv
  rcases Int.lt_or_gt_of_ne h with h | h
  · rw [if_pos h]; omega
  · rw [if_neg (by omega)]; omega
theorem fdiv_pos' {a b d : Int} (h : d ≠ 0) : 1 ≤ d.fdiv (cdv a b d) := by
  have hc := cdv_ne (a := a) (b := b) h
  have hs := cdv_sign (a := a) (b := b) h
  obtain ⟨k, e⟩ := (cdv_dvd a b d).2.2
  generalize cdv a b d = c at *
  subst e
  rw [Int.mul_fdiv_cancel_left _ hc]
  rcases hs with ⟨h1, h2⟩ | ⟨h1, h2⟩
  · rcases Int.lt_or_le 0 k with hk | hk
    · exact hk
    · have := Int.mul_nonneg_of_nonpos_of_nonpos (Int.le_of_lt h2) hk
      omega
  · rcases Int.lt_or_le 0 k with hk | hk
    · exact hk
    · have := Int.mul_nonpos_of_nonneg_of_nonpos (Int.le_of_lt h2) hk
      omega
/-- a number below 2^n -/
def Num (n : Nat) (a b d : Int) : Prop := Sz n a ∧ Sz n b ∧ Sz n d ∧ 1 ≤ d
theorem red_num {n : Nat} {a b d : Int} (ha : Sz n a) (hb : Sz n b) (hd : Sz n d) (h : d ≠ 0) : ∃ x y z, red a b d = tri x y z ∧ Num n x y z := by
  obtain ⟨d1, d2, d3⟩ := cdv_dvd a b d
  exact ⟨_, _, _, rfl, fdiv_sz ha d1 (cdv_ne h), fdiv_sz hb d2 (cdv_ne h), fdiv_sz hd d3 (cdv_ne h), fdiv_pos' h⟩
theorem cdv_sz {n : Nat} {a b d : Int} (hd : Sz n d) (h : d ≠ 0) : Sz n (cdv a b d) := by
  obtain ⟨k, e⟩ := (cdv_dvd a b d).2.2
  have hk : k ≠ 0 := fun z => h (by rw [e, z, Int.mul_zero])
  have h1 : d.natAbs < 2 ^ n := hd
  have h2 : d.natAbs = (cdv a b d).natAbs * k.natAbs := by
    conv => lhs; rw [e]
    exact Int.natAbs_mul _ _
  rw [h2] at h1
  exact Nat.lt_of_le_of_lt (Nat.le_mul_of_pos_right _ (Int.natAbs_pos.mpr hk)) h1
theorem Num.up {n m : Nat} {a b d : Int} (h : Num n a b d) (e : n ≤ m) : Num m a b d := ⟨h.1.mono e, h.2.1.mono e, h.2.2.1.mono e, h.2.2.2⟩
theorem Num.ok {n m : Nat} {a b d c e f : Int} (h : Num n a b d) (k : Num m c e f) (l : n + m ≤ 400000) : MulOk a f ∧ MulOk c d ∧ MulOk b f ∧ MulOk e d ∧ MulOk d f ∧ MulOk a c ∧ MulOk b e ∧ MulOk a e ∧ MulOk b c :=
  ⟨h.1.ok k.2.2.1 (by omega), k.1.ok h.2.2.1 (by omega), h.2.1.ok k.2.2.1 (by omega), k.2.1.ok h.2.2.1 (by omega), h.2.2.1.ok k.2.2.1 (by omega), h.1.ok k.1 (by omega), h.2.1.ok k.2.1 (by omega), h.1.ok k.2.1 (by omega), h.2.1.ok k.1 (by omega)⟩
theorem add_sz {n m : Nat} {a b d c e f : Int} (h : Num n a b d) (k : Num m c e f) : Sz (n + m + 1) (a * f + c * d) ∧ Sz (n + m + 1) (b * f + e * d) ∧ Sz (n + m + 1) (d * f) ∧ 1 ≤ d * f :=
  ⟨(h.1.mul k.2.2.1).add ((k.1.mul h.2.2.1).mono (by omega)), (h.2.1.mul k.2.2.1).add ((k.2.1.mul h.2.2.1).mono (by omega)), (h.2.2.1.mul k.2.2.1).mono (by omega), Int.mul_pos h.2.2.2 k.2.2.2⟩
theorem Num.neg {n : Nat} {a b d : Int} (h : Num n a b d) : Num n (-a) (-b) d := ⟨h.1.neg, h.2.1.neg, h.2.2⟩
theorem Num.one {n : Nat} {a b d : Int} (h : Num n a b d) : Num n a b 1 := ⟨h.1, h.2.1, by
  have h1 : d.natAbs < 2 ^ n := h.2.2.1
  have h2 := h.2.2.2
  show (1 : Int).natAbs < 2 ^ n
  have : (1 : Int).natAbs = 1 := rfl
  omega, by decide⟩
/-- the sign of a + b g -/
def psg (a b : Int) : Int :=
  if 0 ≤ 2 * a + b ∧ 0 ≤ b then (if 0 < 2 * a + b ∨ 0 < b then 1 else 0)
  else if 2 * a + b ≤ 0 ∧ b ≤ 0 then -1
  else if 0 < 2 * a + b then (if 5 * b * b < (2 * a + b) * (2 * a + b) then 1 else -1)
  else if 5 * b * b < (2 * a + b) * (2 * a + b) then -1 else 1
theorem psg_neg (a b : Int) : psg (-a) (-b) = -psg a b := by
  have e : 2 * -a + -b = -(2 * a + b) := by omega
  have e2 : 5 * -b * -b = 5 * b * b := by rw [Int.mul_neg, Int.mul_neg, Int.neg_mul, Int.neg_neg]
  unfold psg
  rw [e, e2, Int.neg_mul_neg]
  generalize 2 * a + b = x
  by_cases h : 5 * b * b < x * x
  · rw [if_pos h, if_pos h]
    repeat' split
    all_goals first | rfl | omega
  · rw [if_neg h, if_neg h]
    repeat' split
    all_goals first | rfl | omega
theorem sq_lt {x y : Int} (h0 : 0 ≤ x) (h : x < y) : x * x < y * y := Int.mul_lt_mul' (Int.le_of_lt h) h h0 (by omega)
theorem sq_le {x y : Int} (h0 : 0 ≤ x) (h : x ≤ y) : x * x ≤ y * y := Int.mul_le_mul h h h0 (by omega)
theorem pair_sz {a b : Int} (ha : Sz 200000 a) (hb : Sz 200000 b) : MulOk 2 a ∧ MulOk (2 * a + b) (2 * a + b) ∧ MulOk 5 b ∧ MulOk (5 * b) b := by
  have h2 : Sz 2 (2 : Int) := by decide
  have h5 : Sz 3 (5 : Int) := by decide
  have hx : Sz 200003 (2 * a + b) := ((h2.mul ha).mono (by decide : 2 + 200000 ≤ 200002)).add (hb.mono (by decide))
  exact ⟨h2.ok ha (by decide), hx.ok hx (by decide), h5.ok hb (by decide), (h5.mul hb).ok hb (by decide)⟩
mutual
theorem pl_plain : ∀ (n : Nat) (d : D), pl n d = true → (toPy d).plain = true
  | _, .non, _ => rfl
  | _, .bl _, _ => rfl
  | _, .int _, _ => rfl
  | _, .str _, _ => rfl
  | 0, .tup _, p => by simp [pl] at p
  | 0, .lst _, p => by simp [pl] at p
  | n + 1, .tup xs, p => by
    simp only [pl] at p
    simp only [toPy, PyData.plain]
    exact pls_plain n xs p
  | n + 1, .lst xs, p => by
    simp only [pl] at p
    simp only [toPy, PyData.plain]
    exact pls_plain n xs p
  | _, .dic _, p => by simp [pl] at p
  | _, .obj _ _, p => by simp [pl] at p
  | _, .opq _, p => by simp [pl] at p
theorem pls_plain : ∀ (n : Nat) (d : List D), pls n d = true → PyData.plainAll (toPys d) = true
  | _, [], _ => rfl
  | n, x :: xs, p => by
    simp only [pls, Bool.and_eq_true] at p
    simp only [toPys, PyData.plainAll, Bool.and_eq_true]
    exact ⟨pl_plain n x p.1, pls_plain n xs p.2⟩
end
theorem red_prop {a b d : Int} (h : d ≠ 0) : ∃ p q r, red a b d = tri p q r ∧ 1 ≤ r ∧ p * d = a * r ∧ q * d = b * r := by
  obtain ⟨d1, d2, d3⟩ := cdv_dvd a b d
  have hc := cdv_ne (a := a) (b := b) h
  refine ⟨_, _, _, rfl, fdiv_pos' h, ?_, ?_⟩
  · obtain ⟨x, e1⟩ := d1
    obtain ⟨z, e3⟩ := d3
    have f1 : a.fdiv (cdv a b d) = x := by conv => lhs; lhs; rw [e1]
                                           exact Int.mul_fdiv_cancel_left _ hc
    have f3 : d.fdiv (cdv a b d) = z := by conv => lhs; lhs; rw [e3]
                                           exact Int.mul_fdiv_cancel_left _ hc
    rw [f1, f3]
    generalize cdv a b d = c at *
    rw [e1, e3, Int.mul_assoc, Int.mul_left_comm]
  · obtain ⟨x, e1⟩ := d2
    obtain ⟨z, e3⟩ := d3
    have f1 : b.fdiv (cdv a b d) = x := by conv => lhs; lhs; rw [e1]
                                           exact Int.mul_fdiv_cancel_left _ hc
    have f3 : d.fdiv (cdv a b d) = z := by conv => lhs; lhs; rw [e3]
                                           exact Int.mul_fdiv_cancel_left _ hc
    rw [f1, f3]
    generalize cdv a b d = c at *
    rw [e1, e3, Int.mul_assoc, Int.mul_left_comm]
def isNum : D → Bool
  | .tup [a, b, c] => isI a && isI b && isI c && decide (1 ≤ nOf c)
  | _ => false
theorem num_len {xs : List D} (h : ¬ xs.length = 3) : isNum (.tup xs) = false := by
  match xs, h with
  | [], _ => rfl
  | [_], _ => rfl
  | [_, _], _ => rfl
  | [_, _, _], h => exact absurd rfl h
  | _ :: _ :: _ :: _ :: _, _ => rfl
end ND

/-! ND36: evaluation, more of it (first written for k11, k10) -/
namespace ND
open PySem PySem.Spec L2
abbrev Pt (x : D) : Prop := Pok 8 300 210000 x
theorem c60 : (2 : Nat) ^ 240 ≤ 10 ^ 4300 := by decide +kernel
section
variable {σ xs : List SV} {f g : GE} {x y : D} {s t : GS} {E : Ed}
end
section
variable {σ : List SV} {f g : GE} {x : D} {i j : Int} {known : Str → Bool}
theorem Ev.abs (h : Ev σ f (.int i)) : Ev σ (gBlt absD (ND.gCons f ND.gNil)) (.int (if i < 0 then -i else i)) := ⟨fun Q q => h.run _ (by simpa [absD] using q)⟩
end
section
variable {σ : List SV} {f g h : GE} {fs fi : GA} {s s' t : GS} {E : Ed} {P P' P2 : D → Prop}
end
end ND

/-! ND37: == of any value and a value without dicts -/
namespace ND
open PySem PySem.SeqAt
section
open AutoSeq1 (wpAny_loadPart')
open MeetsSeq
def IsDct (h : Heap) (a : Addr) (es : Array DictEntry) : Prop := ∃ o, h.get? a = some o ∧ o.cls = .type "dict" ∧ ∃ n, o.data = .dict es n
theorem dict_eq_none (l : Addr) (es : Array DictEntry) (n : Nat) (dd : Option Addr) (sl : Array (Option Value))  :
    Meets (Builtin.«dict.__eq__» ⟨[.ref l, .none], []⟩) (fun _ R s => s.heap.get? l = some { cls := .type "dict", dict := dd, data := .dict es n, slots := sl } ∧ R (.ok (.ret .notImplemented)) s) :=
  .of_wp fun prog w A R s h => by obtain ⟨hp, g, d, tk, os⟩ := s; obtain ⟨hl, h⟩ := h; have f1 := F.sub_NoneType_dict; wp_walk using wpAny_loadPart' hl; exact ⟨_, rfl, h⟩
theorem dict_eq_bool (l : Addr) (es : Array DictEntry) (n : Nat) (dd : Option Addr) (sl : Array (Option Value)) (b : Bool) :
    Meets (Builtin.«dict.__eq__» ⟨[.ref l, .bool b], []⟩) (fun _ R s => s.heap.get? l = some { cls := .type "dict", dict := dd, data := .dict es n, slots := sl } ∧ R (.ok (.ret .notImplemented)) s) :=
  .of_wp fun prog w A R s h => by obtain ⟨hp, g, d, tk, os⟩ := s; obtain ⟨hl, h⟩ := h; have f1 := F.sub_bool_dict; wp_walk using wpAny_loadPart' hl; exact ⟨_, rfl, h⟩
theorem dict_eq_int (l : Addr) (es : Array DictEntry) (n : Nat) (dd : Option Addr) (sl : Array (Option Value)) (b : Int) (u : Tok) :
    Meets (Builtin.«dict.__eq__» ⟨[.ref l, .int b u], []⟩) (fun _ R s => s.heap.get? l = some { cls := .type "dict", dict := dd, data := .dict es n, slots := sl } ∧ R (.ok (.ret .notImplemented)) s) :=
  .of_wp fun prog w A R s h => by obtain ⟨hp, g, d, tk, os⟩ := s; obtain ⟨hl, h⟩ := h; have f1 := F.sub_int_dict; wp_walk using wpAny_loadPart' hl; exact ⟨_, rfl, h⟩
theorem dict_eq_str (l : Addr) (es : Array DictEntry) (n : Nat) (dd : Option Addr) (sl : Array (Option Value)) (b : Str) (u : Tok) :
    Meets (Builtin.«dict.__eq__» ⟨[.ref l, .str b u], []⟩) (fun _ R s => s.heap.get? l = some { cls := .type "dict", dict := dd, data := .dict es n, slots := sl } ∧ R (.ok (.ret .notImplemented)) s) :=
  .of_wp fun prog w A R s h => by obtain ⟨hp, g, d, tk, os⟩ := s; obtain ⟨hl, h⟩ := h; have f1 := F.sub_str_dict; wp_walk using wpAny_loadPart' hl; exact ⟨_, rfl, h⟩
theorem int_eq_dict_bool (b : Bool) (l : Addr) (es : Array DictEntry) (n : Nat) (dd : Option Addr) (sl : Array (Option Value)) :
    Meets (Builtin.«int.__eq__» ⟨[.bool b, .ref l], []⟩) (fun _ R s => s.heap.get? l = some { cls := .type "dict", dict := dd, data := .dict es n, slots := sl } ∧ R (.ok (.ret .notImplemented)) s) :=
  .of_wp fun prog w A R s h => by obtain ⟨hp, g, d, tk, os⟩ := s; obtain ⟨hl, h⟩ := h; wp_walk using wpAny_loadPart' hl, wpAny_load hl; exact ⟨_, rfl, h⟩
theorem int_eq_dict_int (b : Int) (u : Tok) (l : Addr) (es : Array DictEntry) (n : Nat) (dd : Option Addr) (sl : Array (Option Value)) :
    Meets (Builtin.«int.__eq__» ⟨[.int b u, .ref l], []⟩) (fun _ R s => s.heap.get? l = some { cls := .type "dict", dict := dd, data := .dict es n, slots := sl } ∧ R (.ok (.ret .notImplemented)) s) :=
  .of_wp fun prog w A R s h => by obtain ⟨hp, g, d, tk, os⟩ := s; obtain ⟨hl, h⟩ := h; wp_walk using wpAny_loadPart' hl, wpAny_load hl; exact ⟨_, rfl, h⟩
theorem str_eq_dict (b : Str) (u : Tok) (l : Addr) (es : Array DictEntry) (n : Nat) (dd : Option Addr) (sl : Array (Option Value)) :
    Meets (Builtin.«str.__eq__» ⟨[.str b u, .ref l], []⟩) (fun _ R s => s.heap.get? l = some { cls := .type "dict", dict := dd, data := .dict es n, slots := sl } ∧ R (.ok (.ret .notImplemented)) s) :=
  .of_wp fun prog w A R s h => by obtain ⟨hp, g, d, tk, os⟩ := s; obtain ⟨hl, h⟩ := h; wp_walk using wpAny_loadPart' hl, wpAny_load hl; exact ⟨_, rfl, h⟩
theorem list_eq_dict (l b : Addr) (items : Array Value) (es : Array DictEntry) (n n2 : Nat) (dd dd2 : Option Addr) (sl sl2 : Array (Option Value)) :
    Meets (Builtin.«list.__eq__» ⟨[.ref l, .ref b], []⟩) (fun _ R s => s.heap.get? l = some { cls := .type "list", dict := dd2, data := .seq items n2, slots := sl2 } ∧ s.heap.get? b = some { cls := .type "dict", dict := dd, data := .dict es n, slots := sl } ∧ R (.ok (.ret .notImplemented)) s) :=
  .of_wp fun prog w A R s h => by obtain ⟨hp, g, d, tk, os⟩ := s; obtain ⟨hl, hb, h⟩ := h; have f1 := F.sub_dict_list; wp_walk using wpAny_loadPart' hl, wpAny_loadPart' hb; exact ⟨_, rfl, h⟩
theorem dict_eq_list (l b : Addr) (items : Array Value) (es : Array DictEntry) (n n2 : Nat) (dd dd2 : Option Addr) (sl sl2 : Array (Option Value)) :
    Meets (Builtin.«dict.__eq__» ⟨[.ref l, .ref b], []⟩) (fun _ R s => s.heap.get? l = some { cls := .type "dict", dict := dd, data := .dict es n, slots := sl } ∧ s.heap.get? b = some { cls := .type "list", dict := dd2, data := .seq items n2, slots := sl2 } ∧ R (.ok (.ret .notImplemented)) s) :=
  .of_wp fun prog w A R s h => by obtain ⟨hp, g, d, tk, os⟩ := s; obtain ⟨hl, hb, h⟩ := h; have f1 := F.sub_list_dict; wp_walk using wpAny_loadPart' hl, wpAny_loadPart' hb; exact ⟨_, rfl, h⟩
theorem tuple_eq_dict (l b : Addr) (items : Array Value) (es : Array DictEntry) (n n2 : Nat) (dd dd2 : Option Addr) (sl sl2 : Array (Option Value)) :
    Meets (Builtin.«tuple.__eq__» ⟨[.ref l, .ref b], []⟩) (fun _ R s => s.heap.get? l = some { cls := .type "tuple", dict := dd2, data := .seq items n2, slots := sl2 } ∧ s.heap.get? b = some { cls := .type "dict", dict := dd, data := .dict es n, slots := sl } ∧ R (.ok (.ret .notImplemented)) s) :=
  .of_wp fun prog w A R s h => by obtain ⟨hp, g, d, tk, os⟩ := s; obtain ⟨hl, hb, h⟩ := h; have f1 := F.sub_dict_tuple; wp_walk using wpAny_loadPart' hl, wpAny_loadPart' hb; exact ⟨_, rfl, h⟩
theorem dict_eq_tuple (l b : Addr) (items : Array Value) (es : Array DictEntry) (n n2 : Nat) (dd dd2 : Option Addr) (sl sl2 : Array (Option Value)) :
    Meets (Builtin.«dict.__eq__» ⟨[.ref l, .ref b], []⟩) (fun _ R s => s.heap.get? l = some { cls := .type "dict", dict := dd, data := .dict es n, slots := sl } ∧ s.heap.get? b = some { cls := .type "tuple", dict := dd2, data := .seq items n2, slots := sl2 } ∧ R (.ok (.ret .notImplemented)) s) :=
  .of_wp fun prog w A R s h => by obtain ⟨hp, g, d, tk, os⟩ := s; obtain ⟨hl, hb, h⟩ := h; have f1 := F.sub_tuple_dict; wp_walk using wpAny_loadPart' hl, wpAny_loadPart' hb; exact ⟨_, rfl, h⟩
variable {A : Around} {s : Shared}
theorem rc_dict_none {l : Addr} {es : Array DictEntry}  (hl : IsDct s.heap l es) (hu : A.units < cLine) : RcAt A s (.ref l) (.none) false := fun prog w E Q h => by
  obtain ⟨⟨cls, dd, data, sl⟩, ho, hc, n, hd⟩ := id hl
  simp only at hc hd
  subst hc hd
  exact rc_eq_decline_or (k := false) ⟨_, ho, rfl⟩ rfl (by decide) F.sub_NoneType_dict F.slot_dict_eq F.slot_NoneType_eq_refl
    (fun _ hq => call_meets F.slot_dict_eq ⟨_, ho, rfl⟩ F.entry_dict_eq (F.args_dict_eq_2 _ _) (dict_eq_none l es n dd sl ) ⟨ho, hq⟩)
    (fun _ hq => call_gives F.slot_NoneType_eq_refl rfl F.entry_NoneType_eq (F.args_NoneType_eq_2 _ _) (NoneType___eq___none_ref_0 l) hq)
    (fun _ hq => wpAny_of_eq (rfl : isSame (.ref l) (.none) = pure false) hq) (.inr hu) h
theorem eq_dict_none {l : Addr} {es : Array DictEntry}  (hl : IsDct s.heap l es) (hu : A.units < cLine) : EqAt A s (.ref l) (.none) false := fun prog w E Q h => by
  unfold eqBool
  refine wpAny_holding ?_
  refine wpAny_ite_split (fun hab => absurd (eq_of_beq hab) nofun) (fun _ => ?_)
  exact wpAny_bind (rc_dict_none  hl hu prog w E _ (wpAny_truthy_bool h))
theorem rc_none_dict {l : Addr} {es : Array DictEntry}  (hl : IsDct s.heap l es) (hu : A.units < cLine) : RcAt A s (.none) (.ref l) false := fun prog w E Q h => by
  obtain ⟨⟨cls, dd, data, sl⟩, ho, hc, n, hd⟩ := id hl
  simp only at hc hd
  subst hc hd
  exact rc_eq_decline_or (k := false) rfl ⟨_, ho, rfl⟩ (by decide) F.sub_dict_NoneType F.slot_NoneType_eq F.slot_dict_eq_refl
    (fun _ hq => call_gives F.slot_NoneType_eq rfl F.entry_NoneType_eq (F.args_NoneType_eq_2 _ _) (NoneType___eq___none_ref_0 l) hq)
    (fun _ hq => call_meets F.slot_dict_eq_refl ⟨_, ho, rfl⟩ F.entry_dict_eq (F.args_dict_eq_2 _ _) (dict_eq_none l es n dd sl ) ⟨ho, hq⟩)
    (fun _ hq => wpAny_of_eq (rfl : isSame (.none) (.ref l) = pure false) hq) (.inr hu) h
theorem eq_none_dict {l : Addr} {es : Array DictEntry}  (hl : IsDct s.heap l es) (hu : A.units < cLine) : EqAt A s (.none) (.ref l) false := fun prog w E Q h => by
  unfold eqBool
  refine wpAny_holding ?_
  refine wpAny_ite_split (fun hab => absurd (eq_of_beq hab) nofun) (fun _ => ?_)
  exact wpAny_bind (rc_none_dict  hl hu prog w E _ (wpAny_truthy_bool h))
theorem rc_dict_bool {l : Addr} {es : Array DictEntry} (b : Bool) (hl : IsDct s.heap l es) (hu : A.units < cLine) : RcAt A s (.ref l) (.bool b) false := fun prog w E Q h => by
  obtain ⟨⟨cls, dd, data, sl⟩, ho, hc, n, hd⟩ := id hl
  simp only at hc hd
  subst hc hd
  exact rc_eq_decline_or (k := false) ⟨_, ho, rfl⟩ rfl (by decide) F.sub_bool_dict F.slot_dict_eq F.slot_bool_eq_refl
    (fun _ hq => call_meets F.slot_dict_eq ⟨_, ho, rfl⟩ F.entry_dict_eq (F.args_dict_eq_2 _ _) (dict_eq_bool l es n dd sl b) ⟨ho, hq⟩)
    (fun _ hq => call_meets F.slot_bool_eq_refl rfl F.entry_int_eq (F.args_int_eq_2 _ _) (int_eq_dict_bool b l es n dd sl) ⟨ho, hq⟩)
    (fun _ hq => wpAny_of_eq (rfl : isSame (.ref l) (.bool b) = pure false) hq) (.inr hu) h
theorem eq_dict_bool {l : Addr} {es : Array DictEntry} (b : Bool) (hl : IsDct s.heap l es) (hu : A.units < cLine) : EqAt A s (.ref l) (.bool b) false := fun prog w E Q h => by
  unfold eqBool
  refine wpAny_holding ?_
  refine wpAny_ite_split (fun hab => absurd (eq_of_beq hab) nofun) (fun _ => ?_)
  exact wpAny_bind (rc_dict_bool b hl hu prog w E _ (wpAny_truthy_bool h))
theorem rc_bool_dict {l : Addr} {es : Array DictEntry} (b : Bool) (hl : IsDct s.heap l es) (hu : A.units < cLine) : RcAt A s (.bool b) (.ref l) false := fun prog w E Q h => by
  obtain ⟨⟨cls, dd, data, sl⟩, ho, hc, n, hd⟩ := id hl
  simp only at hc hd
  subst hc hd
  exact rc_eq_decline_or (k := false) rfl ⟨_, ho, rfl⟩ (by decide) F.sub_dict_bool F.slot_bool_eq F.slot_dict_eq_refl
    (fun _ hq => call_meets F.slot_bool_eq rfl F.entry_int_eq (F.args_int_eq_2 _ _) (int_eq_dict_bool b l es n dd sl) ⟨ho, hq⟩)
    (fun _ hq => call_meets F.slot_dict_eq_refl ⟨_, ho, rfl⟩ F.entry_dict_eq (F.args_dict_eq_2 _ _) (dict_eq_bool l es n dd sl b) ⟨ho, hq⟩)
    (fun _ hq => wpAny_of_eq (rfl : isSame (.bool b) (.ref l) = pure false) hq) (.inr hu) h
theorem eq_bool_dict {l : Addr} {es : Array DictEntry} (b : Bool) (hl : IsDct s.heap l es) (hu : A.units < cLine) : EqAt A s (.bool b) (.ref l) false := fun prog w E Q h => by
  unfold eqBool
  refine wpAny_holding ?_
  refine wpAny_ite_split (fun hab => absurd (eq_of_beq hab) nofun) (fun _ => ?_)
  exact wpAny_bind (rc_bool_dict b hl hu prog w E _ (wpAny_truthy_bool h))
theorem rc_dict_int {l : Addr} {es : Array DictEntry} (b : Int) (u : Tok) (hl : IsDct s.heap l es) (hu : A.units < cLine) : RcAt A s (.ref l) (.int b u) false := fun prog w E Q h => by
  obtain ⟨⟨cls, dd, data, sl⟩, ho, hc, n, hd⟩ := id hl
  simp only at hc hd
  subst hc hd
  exact rc_eq_decline_or (k := false) ⟨_, ho, rfl⟩ rfl (by decide) F.sub_int_dict F.slot_dict_eq F.slot_int_eq_refl
    (fun _ hq => call_meets F.slot_dict_eq ⟨_, ho, rfl⟩ F.entry_dict_eq (F.args_dict_eq_2 _ _) (dict_eq_int l es n dd sl b u) ⟨ho, hq⟩)
    (fun _ hq => call_meets F.slot_int_eq_refl rfl F.entry_int_eq (F.args_int_eq_2 _ _) (int_eq_dict_int b u l es n dd sl) ⟨ho, hq⟩)
    (fun _ hq => wpAny_of_eq (rfl : isSame (.ref l) (.int b u) = pure false) hq) (.inr hu) h
theorem eq_dict_int {l : Addr} {es : Array DictEntry} (b : Int) (u : Tok) (hl : IsDct s.heap l es) (hu : A.units < cLine) : EqAt A s (.ref l) (.int b u) false := fun prog w E Q h => by
  unfold eqBool
  refine wpAny_holding ?_
  refine wpAny_ite_split (fun hab => absurd (eq_of_beq hab) nofun) (fun _ => ?_)
  exact wpAny_bind (rc_dict_int b u hl hu prog w E _ (wpAny_truthy_bool h))
theorem rc_int_dict {l : Addr} {es : Array DictEntry} (b : Int) (u : Tok) (hl : IsDct s.heap l es) (hu : A.units < cLine) : RcAt A s (.int b u) (.ref l) false := fun prog w E Q h => by
  obtain ⟨⟨cls, dd, data, sl⟩, ho, hc, n, hd⟩ := id hl
  simp only at hc hd
  subst hc hd
  exact rc_eq_decline_or (k := false) rfl ⟨_, ho, rfl⟩ (by decide) F.sub_dict_int F.slot_int_eq F.slot_dict_eq_refl
    (fun _ hq => call_meets F.slot_int_eq rfl F.entry_int_eq (F.args_int_eq_2 _ _) (int_eq_dict_int b u l es n dd sl) ⟨ho, hq⟩)
    (fun _ hq => call_meets F.slot_dict_eq_refl ⟨_, ho, rfl⟩ F.entry_dict_eq (F.args_dict_eq_2 _ _) (dict_eq_int l es n dd sl b u) ⟨ho, hq⟩)
    (fun _ hq => wpAny_of_eq (rfl : isSame (.int b u) (.ref l) = pure false) hq) (.inr hu) h
theorem eq_int_dict {l : Addr} {es : Array DictEntry} (b : Int) (u : Tok) (hl : IsDct s.heap l es) (hu : A.units < cLine) : EqAt A s (.int b u) (.ref l) false := fun prog w E Q h => by
  unfold eqBool
  refine wpAny_holding ?_
  refine wpAny_ite_split (fun hab => absurd (eq_of_beq hab) nofun) (fun _ => ?_)
  exact wpAny_bind (rc_int_dict b u hl hu prog w E _ (wpAny_truthy_bool h))
theorem rc_dict_str {l : Addr} {es : Array DictEntry} (b : Str) (u : Tok) (hl : IsDct s.heap l es) (hu : A.units < cLine) : RcAt A s (.ref l) (.str b u) false := fun prog w E Q h => by
  obtain ⟨⟨cls, dd, data, sl⟩, ho, hc, n, hd⟩ := id hl
  simp only at hc hd
  subst hc hd
  exact rc_eq_decline_or (k := false) ⟨_, ho, rfl⟩ rfl (by decide) F.sub_str_dict F.slot_dict_eq F.slot_str_eq_refl
    (fun _ hq => call_meets F.slot_dict_eq ⟨_, ho, rfl⟩ F.entry_dict_eq (F.args_dict_eq_2 _ _) (dict_eq_str l es n dd sl b u) ⟨ho, hq⟩)
    (fun _ hq => call_meets F.slot_str_eq_refl rfl F.entry_str_eq (F.args_str_eq_2 _ _) (str_eq_dict b u l es n dd sl) ⟨ho, hq⟩)
    (fun _ hq => wpAny_of_eq (rfl : isSame (.ref l) (.str b u) = pure false) hq) (.inr hu) h
theorem eq_dict_str {l : Addr} {es : Array DictEntry} (b : Str) (u : Tok) (hl : IsDct s.heap l es) (hu : A.units < cLine) : EqAt A s (.ref l) (.str b u) false := fun prog w E Q h => by
  unfold eqBool
  refine wpAny_holding ?_
  refine wpAny_ite_split (fun hab => absurd (eq_of_beq hab) nofun) (fun _ => ?_)
  exact wpAny_bind (rc_dict_str b u hl hu prog w E _ (wpAny_truthy_bool h))
theorem rc_str_dict {l : Addr} {es : Array DictEntry} (b : Str) (u : Tok) (hl : IsDct s.heap l es) (hu : A.units < cLine) : RcAt A s (.str b u) (.ref l) false := fun prog w E Q h => by
  obtain ⟨⟨cls, dd, data, sl⟩, ho, hc, n, hd⟩ := id hl
  simp only at hc hd
  subst hc hd
  exact rc_eq_decline_or (k := false) rfl ⟨_, ho, rfl⟩ (by decide) F.sub_dict_str F.slot_str_eq F.slot_dict_eq_refl
    (fun _ hq => call_meets F.slot_str_eq rfl F.entry_str_eq (F.args_str_eq_2 _ _) (str_eq_dict b u l es n dd sl) ⟨ho, hq⟩)
    (fun _ hq => call_meets F.slot_dict_eq_refl ⟨_, ho, rfl⟩ F.entry_dict_eq (F.args_dict_eq_2 _ _) (dict_eq_str l es n dd sl b u) ⟨ho, hq⟩)
    (fun _ hq => wpAny_of_eq (rfl : isSame (.str b u) (.ref l) = pure false) hq) (.inr hu) h
theorem eq_str_dict {l : Addr} {es : Array DictEntry} (b : Str) (u : Tok) (hl : IsDct s.heap l es) (hu : A.units < cLine) : EqAt A s (.str b u) (.ref l) false := fun prog w E Q h => by
  unfold eqBool
  refine wpAny_holding ?_
  refine wpAny_ite_split (fun hab => absurd (eq_of_beq hab) nofun) (fun _ => ?_)
  exact wpAny_bind (rc_str_dict b u hl hu prog w E _ (wpAny_truthy_bool h))
theorem ne_list_dict {h : Heap} {l b : Addr} {items : Array Value} {es : Array DictEntry} (hl : h.IsList l items) (hb : IsDct h b es) : l ≠ b := fun e => by
  subst e
  obtain ⟨o, ho, hc, _⟩ := hl
  obtain ⟨o2, ho2, hc2, _⟩ := hb
  cases Option.some.inj (ho.symm.trans ho2)
  rw [hc] at hc2
  exact absurd hc2 (by simp)
theorem rc_list_dict {l b : Addr} {items : Array Value} {es : Array DictEntry} (hl : s.heap.IsList l items) (hb : IsDct s.heap b es) (hu : A.units < cLine) : RcAt A s (.ref l) (.ref b) false := fun prog w E Q h => by
  have hne := ne_list_dict hl hb
  obtain ⟨⟨cls, dd2, data, sl2⟩, ho, hc, n2, hd⟩ := id hl
  obtain ⟨⟨cls2, dd, data2, sl⟩, ho2, hc2, n, hd2⟩ := id hb
  simp only at hc hd hc2 hd2
  subst hc hd hc2 hd2
  exact (rc_eq_decline_or (k := false) ⟨_, ho, rfl⟩ ⟨_, ho2, rfl⟩ (by decide) F.sub_dict_list F.slot_list_eq F.slot_dict_eq_refl
    (fun _ hq => call_meets F.slot_list_eq ⟨_, ho, rfl⟩ F.entry_list_eq (F.args_list_eq_2 _ _) (list_eq_dict l b items es n n2 dd dd2 sl sl2) ⟨ho, ho2, hq⟩)
    (fun _ hq => call_meets F.slot_dict_eq_refl ⟨_, ho2, rfl⟩ F.entry_dict_eq (F.args_dict_eq_2 _ _) (dict_eq_list b l items es n n2 dd dd2 sl sl2) ⟨ho2, ho, hq⟩)
    (fun _ hq => wpAny_isSame_ref_other hne ho ho2 (by simp) hq) (.inr hu) h)
theorem rc_dict_list {l b : Addr} {items : Array Value} {es : Array DictEntry} (hl : IsDct s.heap l es) (hb : s.heap.IsList b items) (hu : A.units < cLine) : RcAt A s (.ref l) (.ref b) false := fun prog w E Q h => by
  have hne : l ≠ b := (ne_list_dict hb hl).symm
  obtain ⟨⟨cls, dd, data, sl⟩, ho, hc, n, hd⟩ := id hl
  obtain ⟨⟨cls2, dd2, data2, sl2⟩, ho2, hc2, n2, hd2⟩ := id hb
  simp only at hc hd hc2 hd2
  subst hc hd hc2 hd2
  exact (rc_eq_decline_or (k := false) ⟨_, ho, rfl⟩ ⟨_, ho2, rfl⟩ (by decide) F.sub_list_dict F.slot_dict_eq F.slot_list_eq_refl
    (fun _ hq => call_meets F.slot_dict_eq ⟨_, ho, rfl⟩ F.entry_dict_eq (F.args_dict_eq_2 _ _) (dict_eq_list l b items es n n2 dd dd2 sl sl2) ⟨ho, ho2, hq⟩)
    (fun _ hq => call_meets F.slot_list_eq_refl ⟨_, ho2, rfl⟩ F.entry_list_eq (F.args_list_eq_2 _ _) (list_eq_dict b l items es n n2 dd dd2 sl sl2) ⟨ho2, ho, hq⟩)
    (fun _ hq => wpAny_isSame_ref_other hne ho ho2 (by simp) hq) (.inr hu) h)
theorem ne_tuple_dict {h : Heap} {l b : Addr} {items : Array Value} {es : Array DictEntry} (hl : h.IsTuple l items) (hb : IsDct h b es) : l ≠ b := fun e => by
  subst e
  obtain ⟨o, ho, hc, _⟩ := hl
  obtain ⟨o2, ho2, hc2, _⟩ := hb
  cases Option.some.inj (ho.symm.trans ho2)
  rw [hc] at hc2
  exact absurd hc2 (by simp)
theorem rc_tuple_dict {l b : Addr} {items : Array Value} {es : Array DictEntry} (hl : s.heap.IsTuple l items) (hb : IsDct s.heap b es) (hu : A.units < cLine) : RcAt A s (.ref l) (.ref b) false := fun prog w E Q h => by
  have hne := ne_tuple_dict hl hb
  obtain ⟨⟨cls, dd2, data, sl2⟩, ho, hc, n2, hd⟩ := id hl
  obtain ⟨⟨cls2, dd, data2, sl⟩, ho2, hc2, n, hd2⟩ := id hb
  simp only at hc hd hc2 hd2
  subst hc hd hc2 hd2
  exact (rc_eq_decline_or (k := false) ⟨_, ho, rfl⟩ ⟨_, ho2, rfl⟩ (by decide) F.sub_dict_tuple F.slot_tuple_eq F.slot_dict_eq_refl
    (fun _ hq => call_meets F.slot_tuple_eq ⟨_, ho, rfl⟩ F.entry_tuple_eq (F.args_tuple_eq_2 _ _) (tuple_eq_dict l b items es n n2 dd dd2 sl sl2) ⟨ho, ho2, hq⟩)
    (fun _ hq => call_meets F.slot_dict_eq_refl ⟨_, ho2, rfl⟩ F.entry_dict_eq (F.args_dict_eq_2 _ _) (dict_eq_tuple b l items es n n2 dd dd2 sl sl2) ⟨ho2, ho, hq⟩)
    (fun _ hq => wpAny_isSame_ref_other' hne ho ho2 (by simp) hq) (.inr hu) h)
theorem rc_dict_tuple {l b : Addr} {items : Array Value} {es : Array DictEntry} (hl : IsDct s.heap l es) (hb : s.heap.IsTuple b items) (hu : A.units < cLine) : RcAt A s (.ref l) (.ref b) false := fun prog w E Q h => by
  have hne : l ≠ b := (ne_tuple_dict hb hl).symm
  obtain ⟨⟨cls, dd, data, sl⟩, ho, hc, n, hd⟩ := id hl
  obtain ⟨⟨cls2, dd2, data2, sl2⟩, ho2, hc2, n2, hd2⟩ := id hb
  simp only at hc hd hc2 hd2
  subst hc hd hc2 hd2
  exact (rc_eq_decline_or (k := false) ⟨_, ho, rfl⟩ ⟨_, ho2, rfl⟩ (by decide) F.sub_tuple_dict F.slot_dict_eq F.slot_tuple_eq_refl
    (fun _ hq => call_meets F.slot_dict_eq ⟨_, ho, rfl⟩ F.entry_dict_eq (F.args_dict_eq_2 _ _) (dict_eq_tuple l b items es n n2 dd dd2 sl sl2) ⟨ho, ho2, hq⟩)
    (fun _ hq => call_meets F.slot_tuple_eq_refl ⟨_, ho2, rfl⟩ F.entry_tuple_eq (F.args_tuple_eq_2 _ _) (tuple_eq_dict b l items es n n2 dd dd2 sl sl2) ⟨ho2, ho, hq⟩)
    (fun _ hq => wpAny_isSame_ref_other hne ho ho2 (by simp) hq) (.inr hu) h)
theorem reads_same {h : Heap} {d d' : PyData} {v : Value} {as as' : List Addr} (k : d.canLay0 = true ∨ d'.canLay0 = true) (r : Reads h v d as) (r' : Reads h v d' as') : d = d' ∧ d.canLay0 = true := by
  rcases k with k | k
  · exact ⟨Reads.unique d d' v as as' k r r', k⟩
  · have := Reads.unique d' d v as' as k r' r
    subst this
    exact ⟨rfl, k⟩
theorem or_list {xs ys : List PyData} (h : (PyData.list xs).canLay0 = true ∨ (PyData.list ys).canLay0 = true) : PyData.canLayAll0 xs = true ∨ PyData.canLayAll0 ys = true := by simpa only [PyData.canLay0] using h
theorem or_tuple {xs ys : List PyData} (h : (PyData.tuple xs).canLay0 = true ∨ (PyData.tuple ys).canLay0 = true) : PyData.canLayAll0 xs = true ∨ PyData.canLayAll0 ys = true := by simpa only [PyData.canLay0] using h
theorem or_cons {x y : PyData} {xs ys : List PyData} (h : PyData.canLayAll0 (x :: xs) = true ∨ PyData.canLayAll0 (y :: ys) = true) : (x.canLay0 = true ∨ y.canLay0 = true) ∧ (PyData.canLayAll0 xs = true ∨ PyData.canLayAll0 ys = true) := by
  simp only [PyData.canLayAll0, Bool.and_eq_true] at h
  rcases h with h | h
  · exact ⟨.inl h.1, .inl h.2⟩
  · exact ⟨.inr h.1, .inr h.2⟩
mutual
theorem eqAny : ∀ (da db : PyData) (A : Around) (s : Shared) (a b : Value) (as bs : List Addr), Reads s.heap a da as → Reads s.heap b db bs → (da.canLay0 = true ∨ db.canLay0 = true) →
    A.units + min da.depth db.depth < cLine → EqAt A s a b (PyData.eqv da db)
  | .none, _, A, s, _, _, _, _, ra, rb, _, hu => by
    cases ra
    cases rb with
    | none => exact EqAt.same _
    | bool y => exact EqAt.none_bool y
    | int y u => exact EqAt.none_int y u
    | str y u => exact EqAt.none_str y u
    | list k1 k2 k3 k4 => exact EqAt.none_list ⟨_, k1, k2, _, k3⟩ (room_here hu)
    | tuple k1 k2 k3 k4 => exact EqAt.none_tuple ⟨_, k1, k2, _, k3⟩ (room_here hu)
    | dict k1 k2 k3 _ _ => exact eq_none_dict ⟨_, k1, k2, _, k3⟩ (room_here hu)
  | .bool x, _, A, s, _, _, _, _, ra, rb, _, hu => by
    cases ra
    cases rb with
    | none => exact EqAt.bool_none x
    | bool y => exact EqAt.bool_bool x y
    | int y u => exact EqAt.bool_int x y u
    | str y u => exact EqAt.bool_str x y u
    | list k1 k2 k3 k4 => exact EqAt.bool_list x ⟨_, k1, k2, _, k3⟩ (room_here hu)
    | tuple k1 k2 k3 k4 => exact EqAt.bool_tuple x ⟨_, k1, k2, _, k3⟩ (room_here hu)
    | dict k1 k2 k3 _ _ => exact eq_bool_dict x ⟨_, k1, k2, _, k3⟩ (room_here hu)
  | .int x, _, A, s, _, _, _, _, ra, rb, _, hu => by
    cases ra with
    | int _ t =>
      cases rb with
      | none => exact EqAt.int_none x t
      | bool y => exact EqAt.int_bool x t y
      | int y u => exact EqAt.int_int x t y u
      | str y u => exact EqAt.int_str x t y u
      | list k1 k2 k3 k4 => exact EqAt.int_list x t ⟨_, k1, k2, _, k3⟩ (room_here hu)
      | tuple k1 k2 k3 k4 => exact EqAt.int_tuple x t ⟨_, k1, k2, _, k3⟩ (room_here hu)
      | dict k1 k2 k3 _ _ => exact eq_int_dict x t ⟨_, k1, k2, _, k3⟩ (room_here hu)
  | .str x, _, A, s, _, _, _, _, ra, rb, _, hu => by
    cases ra with
    | str _ t =>
      cases rb with
      | none => exact EqAt.str_none x t
      | bool y => exact EqAt.str_bool x t y
      | int y u => exact EqAt.str_int x t y u
      | str y u => exact EqAt.str_str x t y u
      | list k1 k2 k3 k4 => exact EqAt.str_list x t ⟨_, k1, k2, _, k3⟩ (room_here hu)
      | tuple k1 k2 k3 k4 => exact EqAt.str_tuple x t ⟨_, k1, k2, _, k3⟩ (room_here hu)
      | dict k1 k2 k3 _ _ => exact eq_str_dict x t ⟨_, k1, k2, _, k3⟩ (room_here hu)
  | .list xs, db, A, s, _, _, _, _, ra, rb, hc, hu => by
    cases ra with
    | @list l o vs n _ as₁ h1 h2 h3 h4 =>
      have hl : s.heap.IsList l vs := ⟨_, h1, h2, _, h3⟩
      cases rb with
      | none => exact EqAt.list_none hl (room_here hu)
      | bool y => exact EqAt.list_bool y hl (room_here hu)
      | int y u => exact EqAt.list_int y u hl (room_here hu)
      | str y u => exact EqAt.list_str y u hl (room_here hu)
      | tuple k1 k2 k3 k4 => exact EqAt.list_tuple hl ⟨_, k1, k2, _, k3⟩ (room_here hu)
      | dict k1 k2 k3 _ _ => exact .of_refs (ne_list_dict hl ⟨_, k1, k2, _, k3⟩) (rc_list_dict hl ⟨_, k1, k2, _, k3⟩ (room_here hu))
      | @list l' o' vs' n' ys bs₁ k1 k2 k3 k4 =>
        have hl' : s.heap.IsList l' vs' := ⟨_, k1, k2, _, k3⟩
        have n1 : vs.size = xs.length := by simpa using ReadsAll.length _ _ _ h4
        have n2 : vs'.size = ys.length := by simpa using ReadsAll.length _ _ _ k4
        show EqAt A s (.ref l) (.ref l') (PyData.eqvAll xs ys)
        by_cases hll : l = l'
        · subst hll
          obtain ⟨e, ha⟩ := reads_same hc (.list h1 h2 h3 h4) (.list k1 k2 k3 k4)
          injection e with e
          subst e
          rw [eqvAll_refl xs ha]
          exact EqAt.same _
        · by_cases hsz : vs.size = vs'.size
          · rw [← eqvAll_same_length (by omega : xs.length = ys.length), ← n1]
            refine EqAt.of_refs hll (RcAt.lists hl hl' hsz (room_here hu) fun j j1 j2 => ?_)
            have := eqAnyAll xs ys A.in1 s vs.toList vs'.toList _ _ h4 k4 (or_list hc) (room_in hu) j (by simpa using j1) (by simpa using j2)
            simpa using this
          · rw [eqvAll_other_length (by omega : xs.length ≠ ys.length)]
            exact EqAt.of_refs hll (RcAt.lists_lengths hl hl' (by simpa using hsz) (room_here hu))
  | .tuple xs, db, A, s, _, _, _, _, ra, rb, hc, hu => by
    cases ra with
    | @tuple l o vs n _ as₁ h1 h2 h3 h4 =>
      have hl : s.heap.IsTuple l vs := ⟨_, h1, h2, _, h3⟩
      cases rb with
      | none => exact EqAt.tuple_none hl (room_here hu)
      | bool y => exact EqAt.tuple_bool y hl (room_here hu)
      | int y u => exact EqAt.tuple_int y u hl (room_here hu)
      | str y u => exact EqAt.tuple_str y u hl (room_here hu)
      | list k1 k2 k3 k4 => exact EqAt.tuple_list hl ⟨_, k1, k2, _, k3⟩ (room_here hu)
      | dict k1 k2 k3 _ _ => exact .of_refs (ne_tuple_dict hl ⟨_, k1, k2, _, k3⟩) (rc_tuple_dict hl ⟨_, k1, k2, _, k3⟩ (room_here hu))
      | @tuple l' o' vs' n' ys bs₁ k1 k2 k3 k4 =>
        have hl' : s.heap.IsTuple l' vs' := ⟨_, k1, k2, _, k3⟩
        have n1 : vs.size = xs.length := by simpa using ReadsAll.length _ _ _ h4
        have n2 : vs'.size = ys.length := by simpa using ReadsAll.length _ _ _ k4
        show EqAt A s (.ref l) (.ref l') (PyData.eqvAll xs ys)
        by_cases hll : l = l'
        · subst hll
          obtain ⟨e, ha⟩ := reads_same hc (.tuple h1 h2 h3 h4) (.tuple k1 k2 k3 k4)
          injection e with e
          subst e
          rw [eqvAll_refl xs ha]
          exact EqAt.same _
        · rw [← eqvAll_eq xs ys, ← n1, ← n2]
          refine EqAt.of_refs hll (RcAt.tuples hl hl' (room_here hu) fun j j1 j2 => ?_)
          have := eqAnyAll xs ys A.in1 s vs.toList vs'.toList _ _ h4 k4 (or_tuple hc) (room_in hu) j (by simpa using j1) (by simpa using j2)
          simpa using this
  | .dict xs, db, A, s, _, _, _, _, ra, rb, hc, hu => by
    cases ra with
    | @dict l o es n _ as₁ bs₁ h1 h2 h3 h4 h5 =>
      have hl : IsDct s.heap l es := ⟨_, h1, h2, _, h3⟩
      cases rb with
      | none => exact eq_dict_none hl (room_here hu)
      | bool y => exact eq_dict_bool y hl (room_here hu)
      | int y u => exact eq_dict_int y u hl (room_here hu)
      | str y u => exact eq_dict_str y u hl (room_here hu)
      | list k1 k2 k3 k4 => exact .of_refs (ne_list_dict ⟨_, k1, k2, _, k3⟩ hl).symm (rc_dict_list hl ⟨_, k1, k2, _, k3⟩ (room_here hu))
      | tuple k1 k2 k3 k4 => exact .of_refs (ne_tuple_dict ⟨_, k1, k2, _, k3⟩ hl).symm (rc_dict_tuple hl ⟨_, k1, k2, _, k3⟩ (room_here hu))
      | dict k1 k2 k3 _ _ => simp [PyData.canLay0] at hc
theorem eqAnyAll : ∀ (xs ys : List PyData) (A : Around) (s : Shared) (vs ws : List Value) (as bs : List Addr), ReadsAll s.heap vs xs as → ReadsAll s.heap ws ys bs → (PyData.canLayAll0 xs = true ∨ PyData.canLayAll0 ys = true) →
    A.units + min (PyData.depthAll xs) (PyData.depthAll ys) < cLine → ∀ j (h1 : j < vs.length) (h2 : j < ws.length), EqAt A s vs[j] ws[j] (pairEq xs ys j)
  | [], _, _, _, _, _, _, _, ra, _, _, _, j, h1, _ => by cases ra; exact absurd h1 (Nat.not_lt_zero _)
  | _ :: _, [], _, _, _, _, _, _, _, rb, _, _, j, _, h2 => by cases rb; exact absurd h2 (Nat.not_lt_zero _)
  | x :: xs, y :: ys, A, s, _, _, _, _, ra, rb, hc, hu, j, h1, h2 => by
    obtain ⟨hc1, hc2⟩ := or_cons hc
    cases ra with
    | cons r rs =>
      cases rb with
      | cons r' rs' =>
        cases j with
        | zero => exact eqAny x y A s _ _ _ _ r r' hc1 (room_head hu)
        | succ j => exact eqAnyAll xs ys A s _ _ _ _ rs rs' hc2 (room_tail hu) j (Nat.lt_of_succ_lt_succ h1) (Nat.lt_of_succ_lt_succ h2)
end
end
section
variable {B : Bs} {X : Cx} {pins : List (Addr × Obj)} {σ : L2.St} {H F : Hp} {s : Shared}
open PySem.Spec L2
end
end ND

/-! ND38: a text tells its value, if the value is made of ints and tuples -/
namespace ND
open PySem PySem.Spec L2
open PyProof.Rows (cps_toList_append signs_ofString int_text_free')
abbrev cs (d : PyData) : List Nat := d.shown.cps.toList
mutual
/-- ints and tuples alone -/
def nest : PyData → Bool
  | .int _ => true
  | .tuple xs => nests xs
  | _ => false
def nests : List PyData → Bool
  | [] => true
  | x :: xs => nest x && nests xs
end
theorem map_inj {xs ys : List Char} (h : xs.map Char.toNat = ys.map Char.toNat) : xs = ys := by
  induction xs generalizing ys with
  | nil => cases ys with
    | nil => rfl
    | cons _ _ => simp at h
  | cons x xs ih => cases ys with
    | nil => simp at h
    | cons y ys =>
      simp only [List.map_cons, List.cons.injEq] at h
      rw [ih h.2, Char.toNat_inj.mp h.1]
theorem int_inj {i j : Int} (h : cs (.int i) = cs (.int j)) : i = j := by
  have h' : ((toString i : String) : Str).cps.toList = ((toString j : String) : Str).cps.toList := h
  rw [signs_ofString, signs_ofString] at h'
  have := map_inj h'
  exact Int.repr_inj.mp (String.toList_inj.mp this)
def isDg (c : Nat) : Bool := c == 45 || (decide (48 ≤ c) && decide (c ≤ 57))
theorem int_dg (i : Int) : ∀ c ∈ cs (.int i), isDg c = true := fun c m => by
  cases h : isDg c with
  | true => rfl
  | false =>
    simp [isDg] at h
    exact absurd m (int_text_free' c ⟨h.1, by omega⟩ i)
theorem int_ne (i : Int) : cs (.int i) ≠ [] := fun e => by
  have h : ((toString i : String) : Str).cps.toList = [] := e
  rw [signs_ofString, List.map_eq_nil_iff] at h
  have h2 : i.repr.toList = [] := h
  rw [Int.repr_eq_if] at h2
  split at h2
  · rw [Nat.toList_repr] at h2
    have := PyProof.Rows.tDigits_len_ge 10 i.toNat
    rw [h2] at this
    simp at this
  · rw [String.toList_append] at h2
    simp at h2
/-- what may stand behind a value -/
def Stop (r : List Nat) : Prop := r = [] ∨ ∃ c t, r = c :: t ∧ (c = 44 ∨ c = 41)
theorem stop_take {r : List Nat} (h : Stop r) : r.takeWhile isDg = [] := by
  rcases h with rfl | ⟨c, t, rfl, rfl | rfl⟩ <;> rfl
theorem take_dg {xs r : List Nat} (h : ∀ c ∈ xs, isDg c = true) (s : Stop r) : (xs ++ r).takeWhile isDg = xs := by
  induction xs with
  | nil => exact stop_take s
  | cons x xs ih =>
    rw [List.cons_append, List.takeWhile_cons, if_pos (h x List.mem_cons_self), ih fun c m => h c (List.mem_cons_of_mem _ m)]
theorem sh_ap (a b : Str) : (a ++ b).cps.toList = a.cps.toList ++ b.cps.toList := cps_toList_append a b
theorem from_pre : ∀ (ts : List Str) (k : Nat) (acc : Str), ∃ r, (textFrom k acc ts).cps.toList = acc.cps.toList ++ r
  | [], _, acc => ⟨[], by simp [textFrom]⟩
  | t :: ts, k, acc => by
    obtain ⟨r, e⟩ := from_pre ts (k + 1) (acc ++ (if k > 0 then ", " else "" : String) ++ t)
    refine ⟨(((if k > 0 then ", " else "" : String) : Str).cps.toList ++ t.cps.toList) ++ r, ?_⟩
    rw [textFrom, e, sh_ap, sh_ap]
    simp only [List.append_assoc]
/-- how the text of a value begins -/
def headOk : PyData → Nat → Prop
  | .none, c => c = 78
  | .bool _, c => c = 84 ∨ c = 70
  | .int _, c => isDg c = true
  | .str _, c => c = 34 ∨ c = 39
  | .list _, c => c = 91
  | .tuple _, c => c = 40
  | .dict _, c => c = 123
theorem quote_two (x : Str) : reprQuote x = 34 ∨ reprQuote x = 39 := by
  unfold reprQuote
  split
  · simp
  · simp
theorem fold_pre (q : Nat) : ∀ (l : List Nat) (acc : Array Nat), ∃ r, (l.foldl (fun out c => out ++ (PySem.Builtin.Str.reprChar q c).toArray) acc).toList = acc.toList ++ r
  | [], acc => ⟨[], by simp⟩
  | c :: l, acc => by
    obtain ⟨r, e⟩ := fold_pre q l (acc ++ (PySem.Builtin.Str.reprChar q c).toArray)
    exact ⟨PySem.Builtin.Str.reprChar q c ++ r, by rw [List.foldl_cons, e]; simp⟩
theorem head_of (x : PyData) : ∃ c t, cs x = c :: t ∧ headOk x c := by
  cases x with
  | none => exact ⟨78, _, rfl, rfl⟩
  | bool b => cases b; exact ⟨70, _, rfl, .inr rfl⟩; exact ⟨84, _, rfl, .inl rfl⟩
  | int i =>
    cases h : cs (.int i) with
    | nil => exact absurd h (int_ne i)
    | cons c t => exact ⟨c, t, rfl, int_dg i c (by rw [h]; exact List.mem_cons_self)⟩
  | str x =>
    obtain ⟨r, e⟩ := fold_pre (reprQuote x) x.cps.toList #[reprQuote x]
    refine ⟨reprQuote x, r ++ [reprQuote x], ?_, quote_two x⟩
    show (reprText x).cps.toList = _
    unfold reprText
    rw [← Array.foldl_toList] at *
    simp only [Array.toList_push, e]
    simp
  | list xs =>
    obtain ⟨r, e⟩ := from_pre (PyData.shownAll xs) 0 "["
    refine ⟨91, r ++ [93], ?_, rfl⟩
    show (listText (PyData.shownAll xs)).cps.toList = _
    unfold listText
    rw [sh_ap, e]
    rfl
  | tuple xs =>
    refine ⟨40, (Str.join ", " (PyData.shownAll xs)).cps.toList ++ ((if (PyData.shownAll xs).length == 1 then ",)" else ")" : String) : Str).cps.toList, ?_, rfl⟩
    show (tupleText (PyData.shownAll xs)).cps.toList = _
    unfold tupleText
    rw [sh_ap, sh_ap]
    rfl
  | dict kvs =>
    refine ⟨123, (Str.join ", " (PyData.shownKv kvs)).cps.toList ++ (("}" : String) : Str).cps.toList, ?_, rfl⟩
    show (dictText (PyData.shownKv kvs)).cps.toList = _
    unfold dictText
    rw [sh_ap, sh_ap]
    rfl
def restL : List PyData → List Nat
  | [] => [41]
  | x :: xs => 44 :: 32 :: (cs x ++ restL xs)
theorem join_rest : ∀ (x : PyData) (xs : List PyData), (Str.join ", " (PyData.shownAll (x :: xs))).cps.toList ++ [41] = cs x ++ restL xs
  | x, [] => rfl
  | x, y :: ys => by
    have ih := join_rest y ys
    show (x.shown ++ ", " ++ Str.join ", " (PyData.shownAll (y :: ys))).cps.toList ++ [41] = _
    rw [sh_ap, sh_ap, List.append_assoc, ih, List.append_assoc]
    rfl
theorem cs_t0 : cs (.tuple []) = [40, 41] := rfl
theorem cs_t1 (x : PyData) : cs (.tuple [x]) = 40 :: (cs x ++ [44, 41]) := by
  show (tupleText [x.shown]).cps.toList = _
  unfold tupleText
  rw [sh_ap, sh_ap]
  rfl
theorem cs_t2 (x y : PyData) (xs : List PyData) : cs (.tuple (x :: y :: xs)) = 40 :: (cs x ++ restL (y :: xs)) := by
  rw [← join_rest x (y :: xs)]
  show (tupleText (PyData.shownAll (x :: y :: xs))).cps.toList = _
  unfold tupleText
  rw [sh_ap, sh_ap, if_neg (by simp [PyData.shownAll])]
  rfl
theorem stop_rest (xs : List PyData) (r : List Nat) : Stop (restL xs ++ r) := by
  cases xs with
  | nil => exact .inr ⟨41, _, rfl, .inr rfl⟩
  | cons x xs => exact .inr ⟨44, _, rfl, .inl rfl⟩
theorem head_no {x : PyData} {c : Nat} (h : headOk x c) : c ≠ 41 ∧ c ≠ 44 := by
  cases x <;> simp [headOk, isDg] at h <;> omega
mutual
theorem told : ∀ (y x : PyData) (r r' : List Nat), nest y = true → Stop r → Stop r' → cs x ++ r = cs y ++ r' → x = y ∧ r = r'
  | .int j, x, r, r', _, s, s', e => by
    obtain ⟨c, t, ex, hx⟩ := head_of x
    obtain ⟨c', t', ey, hy⟩ := head_of (.int j)
    have e0 := e
    rw [ex, ey, List.cons_append, List.cons_append] at e0
    injection e0 with ec _
    subst ec
    cases x with
    | int i =>
      have h1 : (cs (.int i) ++ r).takeWhile isDg = (cs (.int j) ++ r').takeWhile isDg := by rw [e]
      rw [take_dg (int_dg i) s, take_dg (int_dg j) s'] at h1
      rw [h1] at e
      exact ⟨by rw [int_inj h1], List.append_cancel_left e⟩
    | none => simp [headOk, isDg] at hx hy; omega
    | bool b => simp [headOk, isDg] at hx hy; omega
    | str b => simp [headOk, isDg] at hx hy; omega
    | list b => simp [headOk, isDg] at hx hy; omega
    | tuple b => simp [headOk, isDg] at hx hy; omega
    | dict b => simp [headOk, isDg] at hx hy; omega
  | .tuple ys, x, r, r', n, s, s', e => by
    obtain ⟨c, t, ex, hx⟩ := head_of x
    obtain ⟨c', t', ey, hy⟩ := head_of (.tuple ys)
    have e0 := e
    rw [ex, ey, List.cons_append, List.cons_append] at e0
    injection e0 with ec _
    subst ec
    have hy' : c = 40 := hy
    subst hy'
    simp only [nest] at n
    cases x with
    | none => simp [headOk, isDg] at hx
    | bool b => simp [headOk, isDg] at hx
    | str b => simp [headOk, isDg] at hx
    | list b => simp [headOk, isDg] at hx
    | int b => simp [headOk, isDg] at hx
    | dict b => simp [headOk, isDg] at hx
    | tuple xs =>
      have key := toldT ys xs r r' n s s' e
      exact ⟨by rw [key.1], key.2⟩
  | .none, _, _, _, n, _, _, _ => by simp [nest] at n
  | .bool _, _, _, _, n, _, _, _ => by simp [nest] at n
  | .str _, _, _, _, n, _, _, _ => by simp [nest] at n
  | .list _, _, _, _, n, _, _, _ => by simp [nest] at n
  | .dict _, _, _, _, n, _, _, _ => by simp [nest] at n
theorem toldT : ∀ (ys xs : List PyData) (r r' : List Nat), nests ys = true → Stop r → Stop r' → cs (.tuple xs) ++ r = cs (.tuple ys) ++ r' → xs = ys ∧ r = r'
  | [], xs, r, r', _, s, s', e => by
    rw [cs_t0] at e
    match xs with
    | [] =>
      rw [cs_t0] at e
      exact ⟨rfl, List.append_cancel_left e⟩
    | [x] =>
      rw [cs_t1] at e
      obtain ⟨c, t, ex, hx⟩ := head_of x
      rw [ex] at e
      simp at e
      exact absurd e.1 (head_no hx).1
    | x :: x' :: xs =>
      rw [cs_t2] at e
      obtain ⟨c, t, ex, hx⟩ := head_of x
      rw [ex] at e
      simp at e
      exact absurd e.1 (head_no hx).1
  | [y], xs, r, r', n, s, s', e => by
    simp only [nests, Bool.and_true] at n
    rw [cs_t1] at e
    match xs with
    | [] =>
      rw [cs_t0] at e
      obtain ⟨c, t, ex, hx⟩ := head_of y
      rw [ex] at e
      simp at e
      exact absurd e.1.symm (head_no hx).1
    | [x] =>
      rw [cs_t1] at e
      simp only [List.cons_append, List.append_assoc, List.cons.injEq, true_and, List.nil_append] at e
      obtain ⟨h1, h2⟩ := told y x _ _ n (.inr ⟨44, _, rfl, .inl rfl⟩) (.inr ⟨44, _, rfl, .inl rfl⟩) e
      injection h2 with _ h2
      injection h2 with _ h2
      exact ⟨by rw [h1], h2⟩
    | x :: x' :: xs =>
      rw [cs_t2] at e
      simp only [List.cons_append, List.append_assoc, List.cons.injEq, true_and, List.nil_append] at e
      obtain ⟨h1, h2⟩ := told y x _ _ n (stop_rest _ _) (.inr ⟨44, _, rfl, .inl rfl⟩) e
      simp [restL] at h2
  | y :: y' :: ys, xs, r, r', n, s, s', e => by
    have n' : nest y = true ∧ nests (y' :: ys) = true := by
      rw [nests, Bool.and_eq_true] at n
      exact n
    rw [cs_t2] at e
    match xs with
    | [] =>
      rw [cs_t0] at e
      obtain ⟨c, t, ex, hx⟩ := head_of y
      rw [ex] at e
      simp at e
      exact absurd e.1.symm (head_no hx).1
    | [x] =>
      rw [cs_t1] at e
      simp only [List.cons_append, List.append_assoc, List.cons.injEq, true_and, List.nil_append] at e
      obtain ⟨h1, h2⟩ := told y x _ _ n'.1 (.inr ⟨44, _, rfl, .inl rfl⟩) (stop_rest _ _) e
      simp [restL] at h2
    | x :: x' :: xs =>
      rw [cs_t2] at e
      simp only [List.cons_append, List.append_assoc, List.cons.injEq, true_and] at e
      obtain ⟨h1, h2⟩ := told y x _ _ n'.1 (stop_rest _ _) (stop_rest _ _) e
      obtain ⟨h3, h4⟩ := toldR (y' :: ys) (x' :: xs) r r' n'.2 s s' h2
      exact ⟨by rw [h1, h3], h4⟩
theorem toldR : ∀ (ys xs : List PyData) (r r' : List Nat), nests ys = true → Stop r → Stop r' → restL xs ++ r = restL ys ++ r' → xs = ys ∧ r = r'
  | [], xs, r, r', _, _, _, e => by
    cases xs with
    | nil => exact ⟨rfl, List.append_cancel_left e⟩
    | cons x xs => simp [restL] at e
  | y :: ys, xs, r, r', n, s, s', e => by
    have n' : nest y = true ∧ nests ys = true := by
      rw [nests, Bool.and_eq_true] at n
      exact n
    cases xs with
    | nil => simp [restL] at e
    | cons x xs =>
      simp only [restL, List.cons_append, List.append_assoc, List.cons.injEq, true_and] at e
      obtain ⟨h1, h2⟩ := told y x _ _ n'.1 (stop_rest _ _) (stop_rest _ _) e
      obtain ⟨h3, h4⟩ := toldR ys xs r r' n'.2 s s' h2
      exact ⟨by rw [h1, h3], h4⟩
end
end ND

/-! ND39: rules for the plain laws, gathered from k10 and k11; loops that find -/
namespace ND
open PySem PySem.Spec L2
section
variable {σ : List SV} {f g h : GE} {x y : D} {s t : GS} {E : Ed}
theorem Ev.isT {b : Bool} (a : Ev σ f (.bl b)) : Ev σ (gBin (isD true) f (gC (.bl b))) (.bl false) := ⟨fun Q q => a.run _ (by
  show Q (.bl (!decide (b = b)))
  simpa using q)⟩
end
def fOf : D → Int → Int
  | .tup [a, b, c, d, e] => at5 (nOf a) (nOf b) (nOf c) (nOf d) (nOf e)
  | _ => fun _ => 0
theorem sumN_D {x : D} {Q : D → Prop} (h : isFive x = true) (q : Q (.int (sumN x))) : sumD [x] Q := by
  obtain ⟨xs, rfl, hl, ha⟩ := five_xs h
  exact ⟨_, ints_of ha, q⟩
theorem cor_five {x : D} (h : isCor x = true) : isFive x = true := by
  cases hf : isFive x
  · rw [cor_no hf] at h
    cases h
  · rfl
theorem five_f {x : D} (h : isFive x = true) : x = tup5 (fOf x) := by
  obtain ⟨xs, rfl, hl, ha⟩ := five_xs h
  match xs, hl with
  | [a, b, c, d, e], _ =>
    simp at ha
    obtain ⟨h1, h2, h3, h4, h5⟩ := ha
    obtain ⟨a, rfl⟩ := isI_n h1
    obtain ⟨b, rfl⟩ := isI_n h2
    obtain ⟨c, rfl⟩ := isI_n h3
    obtain ⟨d, rfl⟩ := isI_n h4
    obtain ⟨e, rfl⟩ := isI_n h5
    exact tup5_mk a b c d e
theorem all_lcP {W : WD} {σ : List SV} {i : Nat} {Q : List D → Prop} {c : D → Bool} {P : D → Prop} (sp : DSp) (hs : ∀ x Qd, P x → Qd (.bl (c x)) → sp W [x] Qd fun _ => False) (hi : i < σ.length) : ∀ (xs acc : List D), (∀ x ∈ xs, P x) → acc.length + xs.length ≤ sizeLine → Q (acc ++ xs.map fun x => .bl (c x)) →
    lcG (ggName i) gYes (gCall sp W (fun _ => False) (ND.gCons (gVar i) ND.gNil)) [i] σ Q xs acc
  | [], acc, _, _, q => by simpa [lcG] using q
  | x :: xs, acc, h, hl, q => by
    simp only [List.length_cons] at hl
    have e : (σ.set i (.d x))[i]? = some (.d x) := by simp [hi]
    simp only [lcG, ggName, gYes, gCall, ND.gCons, ND.gNil, gVar, e, if_true, wipeD, List.set_set]
    refine hs x _ (h x List.mem_cons_self) ⟨by omega, ?_⟩
    exact all_lcP sp hs hi xs _ (fun y m => h y (List.mem_cons_of_mem _ m)) (by simp; omega) (by simpa using q)
/-- a loop that returns at the first thing for which it finds something -/
theorem forG_find {ι : Type} {gt : GG} {g : GS} {E : Ed} (h : ι → D) (c : ι → Option D) (I : List SV → Prop) : ∀ (is : List ι) (σ : List SV), I σ → (∀ v, is.findSome? c = some v → E.rt v) → (is.findSome? c = none → ∀ σ, I σ → E.nx σ) →
    (∀ i ∈ is, ∀ σ, I σ → ∀ E' : Ed, E'.rt = E.rt → (∀ v, c i = some v → E.rt v) → (c i = none → ∀ σ2, I σ2 → E'.nx σ2) → (c i = none → ∀ σ2, I σ2 → E'.ct σ2) → gt (h i) σ fun σ' => g E' σ') → forG gt g (is.map h) E σ
  | [], σ, hI, _, hn, _ => hn rfl σ hI
  | i :: is, σ, hI, hv, hn, step => by
    have rest : c i = none → ∀ σ2, I σ2 → forG gt g (is.map h) E σ2 := fun e σ2 h2 =>
      forG_find h c I is σ2 h2 (fun v ev => hv v (by rw [List.findSome?_cons, e]; exact ev)) (fun ev => hn (by rw [List.findSome?_cons, e]; exact ev)) fun j m => step j (List.mem_cons_of_mem _ m)
    exact step i List.mem_cons_self σ hI { E with nx := forG gt g (is.map h) E, ct := forG gt g (is.map h) E, bk := E.nx } rfl (fun v ev => hv v (by rw [List.findSome?_cons, ev])) (fun e => rest e) fun e => rest e
end ND

/-! ND40: x, y, z = [..], e, f -/
namespace ND
open PySem PySem.Spec L2
section
variable {B : Bs} {X : Cx} {a b c : Expr} {fb fc : GE} {pos : Pos}
end
end ND

/-! ND41: repr of any value, a dict too -/
namespace ND
open PySem PySem.Spec L2
open PySem.SeqAt PySem.AutoSeq1
section
variable {prog : Program} {w : World} {A : Around} {E : Value → Shared → Prop} {s : Shared}
end
section
variable {B : Bs} {X : Cx} {pins : List (Addr × Obj)} {σ : L2.St} {H F : Hp} {s : Shared}
end
end ND

/-! ND42: enumerate of a list or a tuple -/
namespace ND
open PySem PySem.Spec L2
theorem draws_tuple {prog : Program} {w : World} {A : Around} (hh : A.handled = none) (it l : Addr) (hne : l ≠ it) (items : Array Value) :
    Draws prog w A it [it, l] items.size (fun i v => items[i]? = some v) (fun i h => h.IsTupleIter it l i ∧ h.IsTuple l items) where
  live := fun _ _ st => let ⟨o, ho, _⟩ := st.1; ⟨o, ho⟩
  frame := fun _ _ _ st hk => ⟨st.1.at fun o e => hk it (by simp) o e, let ⟨o, ho, r⟩ := st.2; ⟨o, hk l (by simp) o ho, r⟩⟩
  item := fun i s Q E hi st hQ => by
    refine RZ.nextOf_tuple_item st.1 st.2 (x := items[i]) (by simp [hi]) fun h' hit' hs' => ?_
    exact hQ _ h' s.toks (by simp [hi]) ⟨hit', let ⟨o, ho, r⟩ := st.2; ⟨o, hs'.extBut l o hne ho, r⟩⟩ hs'
  done := fun s Q E st hE => RZ.nextOf_tuple_end hh st.1 st.2 (by simp) hE
theorem meets_enumerate_newT (l : Addr) (items : Array Value) :
    Meets (Builtin.«enumerate.__new__» ⟨[.type "enumerate", .ref l], []⟩) (fun _ R s => s.heap.IsTuple l items ∧
      R (.ok (.ret (.ref (s.heap.push { cls := .type "tuple_iterator", data := .fields #[.ref l, .int 0 0] }).objs.size)))
        { s with heap := (s.heap.push { cls := .type "tuple_iterator", data := .fields #[.ref l, .int 0 0] }).push { cls := .type "enumerate", data := .fields #[.none, .bool false, .ref s.heap.objs.size, rawInt 0, .none, .none] } }) :=
  .of_wp fun prog w A R s h => by
    obtain ⟨hp, g, d, tk, os⟩ := s; obtain ⟨hl, h⟩ := h
    have hsub := sub_enumerate
    have hL : Heap.IsTuple (Shared.heap ⟨hp, g, d, tk, os⟩) l items := hl
    obtain ⟨o, ho, _⟩ := id hl
    wp_walk using wpAny_pyIter_tuple hL
    refine wpAny_stack_any fun st => wpAny_pure ?_
    split
    · rename_i c _ _ _ _ _
      cases (c == Value.type "enumerate")
      · wp_walk using wpAny_pyIter_tuple hL
        exact ⟨_, rfl, h⟩
      · wp_walk using wpAny_pyIter_tuple hL
        exact ⟨_, rfl, h⟩
    · wp_walk using wpAny_pyIter_tuple hL
      exact ⟨_, rfl, h⟩
section
variable {prog : Program} {w : World} {A : Around} {E : Value → Shared → Prop} {s : Shared}
theorem call_enumerate_tuple {l : Addr} {items : Array Value} {Q : Value → Shared → Prop} (hL : s.heap.IsTuple l items)
    (h : ∀ h', IsEnum h' (s.heap.objs.size + 1) s.heap.objs.size 0 .none → h'.IsTupleIter s.heap.objs.size l 0 → h'.objs.size = s.heap.objs.size + 2 →
      (∀ b o, s.heap.get? b = some o → h'.get? b = some o) → Q (.ref (s.heap.objs.size + 1)) { s with heap := h' }) :
    wpAny (model prog w) A (call (.type "enumerate") [.ref l]) Q E s := by
  refine callType_new F.called_enumerate (by decide) (F.typeCall_enumerate_1 _) (F.newCall_enumerate_1 _) (fun obj => F.args_object_init_2 obj _) F.entry_enumerate_new
    (meets_enumerate_newT l items) ⟨hL, ?_⟩
  have hz : (s.heap.push { cls := .type "tuple_iterator", data := .fields #[.ref l, .int 0 0] }).objs.size = s.heap.objs.size + 1 := Heap.size_push ..
  show _ ∧ _
  rw [hz]
  have he : IsEnum ((s.heap.push { cls := .type "tuple_iterator", data := .fields #[.ref l, .int 0 0] }).push
      { cls := .type "enumerate", data := .fields #[.none, .bool false, .ref s.heap.objs.size, rawInt 0, .none, .none] }) (s.heap.objs.size + 1) s.heap.objs.size 0 .none := by
    have := Heap.get?_push_size (s.heap.push { cls := .type "tuple_iterator", data := .fields #[.ref l, .int 0 0] })
      (o := { cls := .type "enumerate", data := .fields #[.none, .bool false, .ref s.heap.objs.size, rawInt 0, .none, .none] }) rfl
    rw [hz] at this; exact this
  refine ⟨⟨_, he, rfl⟩, h _ he ⟨_, Heap.get?_push_of_some _ (Heap.get?_push_size _ rfl), rfl, rfl⟩ (by rw [Heap.size_push, hz]) fun b o x => Heap.get?_push_of_some _ (Heap.get?_push_of_some _ x)⟩
end
/-- the tuple at a, each item in a new pair -/
def IteT (K : PySem.W.Frag) (a : Addr) : It :=
  ⟨fun i H => ∃ (xs : List V) (x : V), SqT K H a xs ∧ xs[i]? = some x, fun i H v H' => ∃ T x, v = .ref T ∧ H T = none ∧ H' = upd H T (.tup [.int (i : Nat), x]) ∧ ∀ xs, SqT K H a xs → xs[i]? = some x, fun i H => ∃ xs : List V, SqT K H a xs ∧ xs.length ≤ i⟩
theorem turn_enumT {P : Program} {w : World} {K : PySem.W.Frag} {elts : List Expr} {kk : Nat} {tpos : Pos} {a e it : Addr} (hae : a ≠ e) (hai : a ≠ it) (hne : e ≠ it) :
    Turn P w K (.Tuple elts kk tpos) (IteT K a) [e, it] e (fun i h => (∃ old, IsEnum h e it ((i : Nat) : Int) old) ∧ h.IsTupleIter it a i) where
  mem := by simp
  obj := fun i h st b hb => by
    obtain ⟨⟨old, he⟩, ⟨o, ho, hc, hd⟩⟩ := st
    have e' : b = e ∨ b = it := by simpa using hb
    rcases e' with z | z
    · rw [z]; exact ⟨_, he, fun v q => nomatch q⟩
    · rw [z]; exact ⟨o, ho, fun v q => by rw [hd] at q; cases q⟩
  keep := fun i h h' st k => let ⟨⟨old, he⟩, hi⟩ := st; ⟨⟨old, k e (by simp) _ he⟩, hi.at fun o q => k it (by simp) o q⟩
  item := by
    intro X hP hw hK hc i pins s σ H E I hf st hg
    subst hP hw hK
    obtain ⟨⟨old, he⟩, hit⟩ := st
    obtain ⟨xs, x, hq, hx⟩ := hg
    obtain ⟨its, rv, p, _⟩ := I.tuple hq
    obtain ⟨u, hu, ru⟩ := rv.get hx
    have hel : e < s.heap.objs.size := Heap.lt_size he
    have hil : it < s.heap.objs.size := by obtain ⟨_, q, _⟩ := hit; exact Heap.lt_size q
    have hi : i < its.toArray.size := by
      have := (List.getElem?_eq_some_iff.mp hu).1
      simpa using this
    refine wpAny_pyNext_enum_itemD (draws_tuple (prog := X.prog) (w := X.w) (A := X.A.in1) (I.ok.hd hc) it a hai its.toArray) he ⟨hit, p⟩ hi hne (by simp [hne, Ne.symm hae]) fun y h' tk hy ho hst hT hsz hk => ?_
    have ey : y = u := by
      have h2 : its[i]? = some y := by simpa using hy
      rw [hu] at h2
      exact (Option.some.inj h2).symm
    subst ey
    refine ⟨_, rfl, wpAny_letOwnedTupleGo_enum (s := { s with heap := h', toks := tk + 1 }) ho fun h'' he' sb => ?_⟩
    have hT2 : h''.get? s.heap.objs.size = some { cls := .type "tuple", data := .seq #[.int i tk, y] } := (sb.2 _ (Nat.ne_of_gt hel)).trans hT
    have new : ObjOk X.prog X.w (upd H s.heap.objs.size (.tup [.int (i : Nat), x])) h'' s.heap.objs.size (.tup [.int (i : Nat), x]) :=
      ⟨by show 2 ≤ sizeLine; decide, [.int i tk, y], .cons ⟨_, rfl⟩ (.cons ru .nil), ⟨_, hT2, rfl, _, rfl⟩⟩
    have I1 : Inv X pins σ (upd H s.heap.objs.size (.tup [.int (i : Nat), x])) { s with heap := h'', toks := tk + 1 } :=
      I.turnedNew (ch := [e, it]) (fun b ob hb q => (sb.2 b (fun z => hb (by simp [z]))).trans (hk b ob (fun z => hb (by simp [z])) (fun z => hb (by simp [z])) q)) hf (Nat.le_refl _) new
    refine ⟨.ref s.heap.objs.size, _, I1, rfl, ⟨_, x, rfl, I.hok.fresh (Nat.le_refl _), rfl, fun ys hy => by rw [I.tuple_inj hy hq]; exact hx⟩, ⟨⟨y, ?_⟩, hst.1.at fun o q => (sb.2 it (Ne.symm hne)).trans q⟩, fun b hb => ?_⟩
    · have e1 : ((i + 1 : Nat) : Int) = (i : Int) + 1 := by omega
      rw [e1]; exact he'
    · have hb' : b < s.heap.objs.size := by
        have e' : b = e ∨ b = it := by simpa using hb
        rcases e' with z | z
        · rw [z]; exact hel
        · rw [z]; exact hil
      rw [upd_ne (Nat.ne_of_lt hb')]
      exact (hf b hb).1
  done := by
    intro X hP hw hK hc i pins s σ H E I hf st hg
    subst hP hw hK
    obtain ⟨⟨old, he⟩, hit⟩ := st
    obtain ⟨xs, hq, hx⟩ := hg
    obtain ⟨its, rv, p, _⟩ := I.tuple hq
    obtain ⟨f0, f1, f2, f3, f4, f5⟩ := hf it (by simp)
    have hl := rv.length
    have hT : s.TypeIs (.ref e) "enumerate" := ⟨_, he, rfl⟩
    unfold pyNext
    refine wpAny_bind (wpAny_attempt (wpAny_callSpecial?_slot (name := Str.ofString "__next__") hT F.slot_enumerate_next
      (wpAny_call_entry F.slot_enumerate_next hT F.entry_enumerate_next ?_ (F.args_enumerate_next_1 _))))
    show wpAny _ _ (field (.ref e) 2 >>= _) _ _ _
    refine wpAny_bind (wpAny_field he rfl (x := .ref it) rfl ?_)
    refine wpAny_bind (RZ.nextOf_tuple_end (A := X.A.in1) (I.ok.hd hc) hit p (by simp; omega) fun h' x he' hx' => ?_)
    obtain ⟨o, ho, hcl⟩ := hx'
    refine wpAny_bind (wpAny_isInstance (T := "StopIteration") (b := true) ⟨o, ho, hcl⟩ isSubtype_stop ?_)
    exact wpAny_pure ⟨rfl, I.turned (t' := s.toks) (fun b o hb q => he' b o hb q) f0 f1 f3 f4 f5⟩
  self := fun A i s Q E st h => let ⟨⟨_, he⟩, _⟩ := st; wpAny_pyIter_enum he h
def iEnumA (K : PySem.W.Frag) (ta : TA) : TI := fun σ H R => ta σ H fun vs H1 => ∃ a xs, vs = [.ref a] ∧ ((SqL K H1 a xs ∧ R (Ite K a) H1) ∨ (SqT K H1 a xs ∧ R (IteT K a) H1))
theorem pi_enumA {X : Cx} {e : Expr} {ta : TA} {p pos tpos : Pos} {elts : List Expr} {kk : Nat} (hg : Gl X "enumerate") (hm : X.mg "enumerate" = none) (ha : PA X [e] ta) (hs : starEach [e] X.env = [(false, eval e X.env)] := by rfl) :
    PI X (.Tuple elts kk tpos) (.Call (.Name "enumerate" p) [e] [] pos) (iEnumA X.K ta) := by
  refine ⟨fun pins s σ H R I h => ?_⟩
  refine PyProof.Rows.Call_ (ld_blt I hg hm PyProof.Rows.boot_enumerate (PyProof.Rows.callWith_type1 (thn (ha.run pos pins s σ H _ I h) fun us s1 ⟨vs, H1, I1, r1, q1⟩ => ?_) hs rfl))
  obtain ⟨a, xs, ex, q⟩ := q1
  subst ex
  cases r1 with
  | cons r rr =>
    cases rr
    cases r
    have fr : ∀ b, b ∈ [s1.heap.objs.size + 1, s1.heap.objs.size] → FpOk X pins H1 b := fun b hb => by
      have e' : b = s1.heap.objs.size + 1 ∨ b = s1.heap.objs.size := by simpa using hb
      have hle : s1.heap.objs.size ≤ b := by
        rcases e' with z | z
        · rw [z]; exact Nat.le_add_right _ _
        · rw [z]; exact Nat.le_refl _
      exact I1.fpOk hle (I1.hok.fresh hle)
    rcases q with ⟨hq, q⟩ | ⟨hq, q⟩
    · obtain ⟨its, rv, p', hz⟩ := I1.list hq
      refine call_enumerate_list p'.isList fun h' he hit hsz hk => wpAny_pyIter_enum he ?_
      have I2 : Inv X pins σ H1 { s1 with heap := h' } := I1.kept (t' := s1.toks) hk
      exact ⟨s1.heap.objs.size + 1, [s1.heap.objs.size + 1, s1.heap.objs.size], _, _, H1, rfl, I2, turn_enum a (s1.heap.objs.size + 1) s1.heap.objs.size, ⟨⟨.none, he⟩, hit, Nat.succ_ne_self _⟩, fr, q⟩
    · obtain ⟨its, rv, p', hz⟩ := I1.tuple hq
      obtain ⟨o1, ho1, _⟩ := id p'
      have hl := Heap.lt_size ho1
      refine call_enumerate_tuple (show s1.heap.IsTuple a its.toArray from p') fun h' he hit hsz hk => wpAny_pyIter_enum he ?_
      have I2 : Inv X pins σ H1 { s1 with heap := h' } := I1.kept (t' := s1.toks) hk
      exact ⟨s1.heap.objs.size + 1, [s1.heap.objs.size + 1, s1.heap.objs.size], _, _, H1, rfl, I2, turn_enumT (Nat.ne_of_lt (Nat.lt_succ_of_lt hl)) (Nat.ne_of_lt hl) (Nat.succ_ne_self _), ⟨⟨.none, he⟩, hit⟩, fr, q⟩
section
variable {B : Bs} {X : Cx} {e : Expr} {pos : Pos}
def enumL (xs : List D) : List D := xs.zipIdx.map fun x => .tup [.int (x.2 : Nat), x.1]
theorem enumL_at {xs : List D} {i : Nat} {d : D} (h : (enumL xs)[i]? = some d) : ∃ x, xs[i]? = some x ∧ d = .tup [.int (i : Nat), x] := by
  unfold enumL at h
  rw [List.getElem?_map, List.getElem?_zipIdx] at h
  cases hx : xs[i]? with
  | none => simp [hx] at h
  | some x =>
    simp [hx] at h
    exact ⟨x, rfl, h.symm⟩
theorem enumL_len (xs : List D) : (enumL xs).length = xs.length := by simp [enumL]
theorem itOk_enumT {K : Kn} {a : Addr} {vs : List V} {xs : List D} {F : Hp} (h : SqT K.K F a vs) (r : Reps K F vs xs) : ItOk B K (IteT K.K a) (enumL xs) F := by
  refine ⟨fun F' H' i d e1 e2 dk hd => ?_, fun F' H' i e1 e2 hi => ⟨vs, same_t e2 (same_t e1 h), by rw [r.length]; rw [enumL_len] at hi; exact hi⟩⟩
  obtain ⟨x, hx, rfl⟩ := enumL_at hd
  have ha : SqT K.K H' a vs := same_t e2 (same_t e1 h)
  obtain ⟨v, hv, rv⟩ := r.get hx
  refine ⟨⟨vs, v, ha, hv⟩, fun z H'' ⟨T, v', e, hT, eH, fv⟩ => ?_⟩
  subst e eH
  have z1 := fv vs ha
  rw [hv] at z1
  cases z1
  have fT := e2.free hT
  exact ⟨_, Grow.frz e2 hT, dk.frz hT, .tup (SqT.of upd_same) (.cons (.int _) (.cons ((rv.mono e1).mono (same_new fT)) .nil))⟩
theorem itOk_enumL {K : Kn} {a : Addr} {vs : List V} {xs : List D} {F : Hp} (h : F a = some (.lst vs)) (r : Reps K F vs xs) : ItOk B K (Ite K.K a) (enumL xs) F := by
  refine ⟨fun F' H' i d e1 e2 dk hd => ?_, fun F' H' i e1 e2 hi => ⟨vs, SqL.of (e2 _ _ (e1 _ _ h)), by rw [r.length]; rw [enumL_len] at hi; exact hi⟩⟩
  obtain ⟨x, hx, rfl⟩ := enumL_at hd
  have ha : SqL K.K H' a vs := SqL.of (e2 _ _ (e1 _ _ h))
  obtain ⟨v, hv, rv⟩ := r.get hx
  refine ⟨⟨vs, v, ha, hv⟩, fun z H'' ⟨T, v', e, hT, eH, fv⟩ => ?_⟩
  subst e eH
  have z1 := fv vs ha
  rw [hv] at z1
  cases z1
  have fT := e2.free hT
  exact ⟨_, Grow.frz e2 hT, dk.frz hT, .tup (SqT.of upd_same) (.cons (.int _) (.cons ((rv.mono e1).mono (same_new fT)) .nil))⟩
def enumD : List D → (List D → Prop) → Prop
  | [.tup xs], Q => Q (enumL xs)
  | [.lst xs], Q => Q (enumL xs)
  | _, _ => False
@[simp] theorem enumD_t (xs : List D) (Q : List D → Prop) : enumD [.tup xs] Q = Q (enumL xs) := rfl
@[simp] theorem enumD_l (xs : List D) (Q : List D → Prop) : enumD [.lst xs] Q = Q (enumL xs) := rfl
@[simp] def gEnum (fs : GA) (σ : List SV) (Q : List D → Prop) : Prop := fs σ fun ds => enumD ds Q
theorem pid_enum {p tpos : Pos} {elts : List Expr} {kk : Nat} {fs : GA} (hg : Gl X "enumerate") (hm : X.mg "enumerate" = none) (ha : AD B X [e] fs)
    (hs : starEach [e] X.env = [(false, eval e X.env)] := by rfl) :
    PID B X (.Tuple elts kk tpos) (.Call (.Name "enumerate" p) [e] [] pos) (gEnum fs) :=
  ⟨pi_imp (pi_enumA hg hm ha.run hs) fun s H R ⟨σ, F, Qd, Rl, q, k⟩ => ⟨σ, F, _, Rl, q, fun ds qd F1 H1 vs g1 d1 r1 => by
    unfold enumD at qd
    split at qd
    · cases r1 with
      | cons r t =>
        cases t
        cases r with
        | tup h r => exact ⟨_, _, rfl, .inr ⟨same_t g1.fh h, k _ qd F1 H1 _ g1 d1 (itOk_enumT h r)⟩⟩
    · cases r1 with
      | cons r t =>
        cases t
        cases r with
        | lst h r => exact ⟨_, _, rfl, .inl ⟨SqL.of (g1.fh _ _ h), k _ qd F1 H1 _ g1 d1 (itOk_enumL h r)⟩⟩
    · exact qd.elim⟩⟩
end
end ND

/-! ND43: extend, nested targets of comprehensions, small lemmas for the plain laws -/
namespace ND
open PySem PySem.Spec L2
section
variable {B : Bs} {X : Cx} {e : Expr} {pos : Pos}
end
/-! ### x, y = e, [..] -/
section
variable {B : Bs} {X : Cx} {a b : Expr} {pos : Pos} {fa : GE}
end
/-! ### nested targets of a comprehension -/
section
variable {B : Bs} {K : Kn} {own : List Nat}
end
/-! ### small things -/
theorem rok_bb (a b : Bool) : Rok (.tup [.bl a, .bl b]) := by cases a <;> cases b <;> exact ⟨by decide +kernel, by decide +kernel, by decide +kernel, by decide +kernel⟩
theorem seq_mid {σ : List SV} {P : List SV → Prop} {s t : GS} {E : Ed} (rest : ∀ σ', P σ' → t E σ') (h : ∀ E' : Ed, E'.rt = E.rt → (∀ σ', P σ' → E'.nx σ') → s E' σ) : gSeq s t E σ := h { E with nx := t E } rfl rest
theorem pok_of {n m b : Nat} {ys : List D} (h : ∀ y ∈ ys, Pok n m b y) : Pok (n + 1) m ((b + 2) * ys.length + 3) (.tup ys) ∧ Pok (n + 1) m ((b + 2) * ys.length + 3) (.lst ys) := by
  have : rps n ys = true ∧ sms (2 ^ m) ys = true ∧ rszs ys ≤ (b + 2) * ys.length := by
    induction ys with
    | nil => simp [rps, sms, rszs]
    | cons y ys ih =>
      obtain ⟨h1, h2, h3⟩ := ih fun z m => h z (List.mem_cons_of_mem _ m)
      have hy := h y List.mem_cons_self
      have hz := hy.z
      refine ⟨by simp [rps, hy.r, h1], by simp [sms, hy.b, h2], ?_⟩
      simp only [rszs, List.length_cons, Nat.mul_add, Nat.mul_one] at h3 ⊢
      omega
  obtain ⟨h1, h2, h3⟩ := this
  exact ⟨⟨by simpa only [rp] using h1, by simpa only [sm] using h2, by simp only [rsz]; omega⟩, ⟨by simpa only [rp] using h1, by simpa only [sm] using h2, by simp only [rsz]; omega⟩⟩
/-- a reduced number, its parts -/
theorem red_parts {n : Nat} {a b d : Int} (ha : Sz n a) (hb : Sz n b) (hd : Sz n d) (h : 1 ≤ d) : ∃ x y z, red a b d = tri x y z ∧ Num n x y z ∧ x * d = a * z ∧ y * d = b * z := by
  obtain ⟨x, y, z, e, hn⟩ := red_num ha hb hd (by omega)
  obtain ⟨p, q, r, e2, h1, h2, h3⟩ := red_prop (a := a) (b := b) (d := d) (by omega)
  rw [e] at e2
  simp at e2
  obtain ⟨rfl, rfl, rfl⟩ := e2
  exact ⟨x, y, z, e, hn, h2, h3⟩
end ND

/-! ND44: tuples of integers, sides of floors, keys -/
namespace ND
open PySem PySem.Spec L2
def tD (s : List Int) : D := .tup (s.map D.int)
/-! ### sides -/
def dirs5 : List Int := [0, 1, 2, 3, 4]
def zer5 : List Int := [0, 0, 0, 0, 0]
def unit5 (r : Int) : List Int := dirs5.map fun j => if j = r then 1 else 0
def neg5 (s : List Int) : List Int := s.map fun x => -x
def ten5 : List (List Int) := [[-1, -1, 1, -1, 1], [-1, 1, -1, -1, 1], [-1, 1, -1, 1, -1], [-1, 1, -1, 1, 1], [-1, 1, 1, -1, 1], [1, -1, -1, 1, -1], [1, -1, 1, -1, -1], [1, -1, 1, -1, 1], [1, -1, 1, 1, -1], [1, 1, -1, 1, -1]]
def sidesL : List Int → List (List Int)
  | [] => [zer5]
  | [r] => [neg5 (unit5 r), unit5 r]
  | _ => ten5
/-- the ways in which keys can be whole -/
def WL : List (List Int) := [[], [0], [1], [2], [3], [4], [0, 1, 2, 3, 4]]
/-! ### keys: (a r + b r g) / d -/
structure KR (a b : Int → Int) : Prop where
  k0 : a 2 = -b 1 - a 0 ∧ b 2 = -a 1 - b 1 - b 0
  k1 : a 3 = -b 2 - a 1 ∧ b 3 = -a 2 - b 2 - b 1
  k2 : a 4 = -b 3 - a 2 ∧ b 4 = -a 3 - b 3 - b 2
def whB (a b : Int → Int) (d r : Int) : Bool := decide (a r % d = 0) && decide (b r % d = 0)
def whL (a b : Int → Int) (d : Int) : List Int := dirs5.filter (whB a b d)
def keyD (a b : Int → Int) (d : Int) : D := .tup [red (a 0) (b 0) d, red (a 1) (b 1) d, red (a 2) (b 2) d, red (a 3) (b 3) d, red (a 4) (b 4) d]
abbrev pr (x y : Int) : D := .tup [.int x, .int y]
structure KA (n : Nat) (a b : Int → Int) (d : Int) : Prop where
  r : KR a b
  d1 : 1 ≤ d
  sd : Sz n d
  sa : Szf n a
  sb : Szf n b
abbrev flo (k : D) (s : List Int) : D := .obj "Floor" [("all_keys", k), ("side", tD s)]
theorem mod_iff {a d : Int} : a % d = 0 ↔ ∃ k, a = d * k := ⟨fun h => ⟨a / d, by
  have := Int.mul_ediv_add_emod a d
  omega⟩, fun ⟨k, e⟩ => by rw [e]; exact Int.mul_emod_right d k⟩
theorem wh_iff {a b : Int → Int} {d r : Int} : whB a b d r = true ↔ (∃ k, a r = d * k) ∧ ∃ k, b r = d * k := by
  unfold whB
  rw [Bool.and_eq_true, decide_eq_true_eq, decide_eq_true_eq, mod_iff, mod_iff]
/-- the other two of the five laws -/
theorem KR.k3 {a b : Int → Int} (h : KR a b) : a 0 = -b 4 - a 3 ∧ b 0 = -a 4 - b 4 - b 3 := by
  obtain ⟨⟨a2, b2⟩, ⟨a3, b3⟩, ⟨a4, b4⟩⟩ := h
  omega
theorem KR.k4 {a b : Int → Int} (h : KR a b) : a 1 = -b 0 - a 4 ∧ b 1 = -a 0 - b 0 - b 4 := by
  obtain ⟨⟨a2, b2⟩, ⟨a3, b3⟩, ⟨a4, b4⟩⟩ := h
  omega
def Mu (d z : Int) : Prop := ∃ k, z = d * k
theorem Mu.add {d x y : Int} : Mu d x → Mu d y → Mu d (x + y) := fun ⟨k, e⟩ ⟨l, f⟩ => ⟨k + l, by rw [e, f, Int.mul_add]⟩
theorem Mu.neg {d x : Int} : Mu d x → Mu d (-x) := fun ⟨k, e⟩ => ⟨-k, by rw [e, Int.mul_neg]⟩
theorem Mu.sub {d x y : Int} (h : Mu d x) (k : Mu d y) : Mu d (x - y) := h.add k.neg
theorem mu_next {d p q r s u v : Int} (e1 : u = -s - p) (e2 : v = -r - s - q) (h : Mu d p ∧ Mu d q) (k : Mu d r ∧ Mu d s) : Mu d u ∧ Mu d v := by
  subst e1 e2
  exact ⟨k.2.neg.sub h.1, (k.1.neg.sub k.2).sub h.2⟩
theorem mu_mid {d p q r s u v : Int} (e1 : u = -s - p) (e2 : v = -r - s - q) (h : Mu d p ∧ Mu d q) (k : Mu d u ∧ Mu d v) : Mu d r ∧ Mu d s := by
  have hs : Mu d s := by
    have := (k.1.add h.1).neg
    rwa [show -(u + p) = s by omega] at this
  have := ((k.2.add h.2).neg).sub hs
  rw [show -(v + q) - s = r by omega] at this
  exact ⟨this, hs⟩
/-- two whole keys make all of them whole -/
theorem wh_all {a b : Int → Int} {d i j : Int} (h : KR a b) (hi : i ∈ dirs5) (hj : j ∈ dirs5) (hij : i < j) (w1 : whB a b d i = true) (w2 : whB a b d j = true) : whB a b d 0 = true ∧ whB a b d 1 = true ∧ whB a b d 2 = true ∧ whB a b d 3 = true ∧ whB a b d 4 = true := by
  obtain ⟨a3, b3⟩ := h.k3
  obtain ⟨a4, b4⟩ := h.k4
  obtain ⟨⟨a0, b0⟩, ⟨a1, b1⟩, ⟨a2, b2⟩⟩ := h
  simp only [wh_iff] at w1 w2 ⊢
  have fin : (Mu d (a 0) ∧ Mu d (b 0)) → (Mu d (a 1) ∧ Mu d (b 1)) → (Mu d (a 0) ∧ Mu d (b 0)) ∧ (Mu d (a 1) ∧ Mu d (b 1)) ∧ (Mu d (a 2) ∧ Mu d (b 2)) ∧ (Mu d (a 3) ∧ Mu d (b 3)) ∧ (Mu d (a 4) ∧ Mu d (b 4)) := fun h0 h1 => by
    have h2 := mu_next a0 b0 h0 h1
    have h3 := mu_next a1 b1 h1 h2
    exact ⟨h0, h1, h2, h3, mu_next a2 b2 h2 h3⟩
  simp only [dirs5, List.mem_cons, List.not_mem_nil, or_false] at hi hj
  rcases hi with rfl | rfl | rfl | rfl | rfl <;> rcases hj with rfl | rfl | rfl | rfl | rfl <;> first
    | (exfalso; omega)
    | skip
  · exact fin w1 w2
  · exact fin w1 (mu_mid a0 b0 w1 w2)
  · have h4 := mu_mid a3 b3 w2 w1
    exact fin w1 (mu_next a4 b4 h4 w1)
  · exact fin w1 (mu_next a4 b4 w2 w1)
  · have h3 := mu_next a1 b1 w1 w2
    have h4 := mu_next a2 b2 w2 h3
    exact fin (mu_next a3 b3 h3 h4) w1
  · have h2 := mu_mid a1 b1 w1 w2
    have h4 := mu_next a2 b2 h2 w2
    exact fin (mu_next a3 b3 w2 h4) w1
  · exact fin (mu_mid a4 b4 w2 w1) w1
  · have h4 := mu_next a2 b2 w1 w2
    have h0 := mu_next a3 b3 w2 h4
    exact fin h0 (mu_next a4 b4 h4 h0)
  · have h3 := mu_mid a2 b2 w1 w2
    have h0 := mu_next a3 b3 h3 w2
    exact fin h0 (mu_next a4 b4 w2 h0)
  · have h0 := mu_next a3 b3 w1 w2
    exact fin h0 (mu_next a4 b4 w2 h0)
theorem whL_mem {a b : Int → Int} {d : Int} (h : KR a b) : whL a b d ∈ WL := by
  unfold whL dirs5
  have all := fun i j hi hj hij => wh_all (d := d) (i := i) (j := j) h hi hj hij
  by_cases h0 : whB a b d 0 = true <;> by_cases h1 : whB a b d 1 = true <;> by_cases h2 : whB a b d 2 = true <;> by_cases h3 : whB a b d 3 = true <;> by_cases h4 : whB a b d 4 = true <;> first
    | (simp only [List.filter_cons, h0, h1, h2, h3, h4, if_true, if_false, List.filter_nil]; simp [WL]; done)
    | (exfalso
       first
       | (have := all 0 1 (by decide) (by decide) (by decide) h0 h1; simp_all)
       | (have := all 0 2 (by decide) (by decide) (by decide) h0 h2; simp_all)
       | (have := all 0 3 (by decide) (by decide) (by decide) h0 h3; simp_all)
       | (have := all 0 4 (by decide) (by decide) (by decide) h0 h4; simp_all)
       | (have := all 1 2 (by decide) (by decide) (by decide) h1 h2; simp_all)
       | (have := all 1 3 (by decide) (by decide) (by decide) h1 h3; simp_all)
       | (have := all 1 4 (by decide) (by decide) (by decide) h1 h4; simp_all)
       | (have := all 2 3 (by decide) (by decide) (by decide) h2 h3; simp_all)
       | (have := all 2 4 (by decide) (by decide) (by decide) h2 h4; simp_all)
       | (have := all 3 4 (by decide) (by decide) (by decide) h3 h4; simp_all))
/-! ### numbers as fractions -/
/-- x is the number (p + q g) / d -/
def Fr (n : Nat) (x : D) (p q d : Int) : Prop := ∃ u v w, x = tri u v w ∧ Num n u v w ∧ u * d = p * w ∧ v * d = q * w
theorem fr_red {n : Nat} {p q d : Int} (hp : Sz n p) (hq : Sz n q) (hd : Sz n d) (h : 1 ≤ d) : Fr n (red p q d) p q d := by
  obtain ⟨x, y, z, e, hn, e1, e2⟩ := red_parts hp hq hd h
  exact ⟨x, y, z, e, hn, e1, e2⟩
end ND

/-! ND45: keys of floors: the next one; what is a side -/
namespace ND
open PySem PySem.Spec L2
theorem KA.up {n m : Nat} {a b : Int → Int} {d : Int} (h : KA n a b d) (e : n ≤ m) : KA m a b d := ⟨h.r, h.d1, h.sd.mono e, fun i i0 i4 => (h.sa i i0 i4).mono e, fun i i0 i4 => (h.sb i i0 i4).mono e⟩
theorem Fr.up {n m : Nat} {x : D} {p q d : Int} (h : Fr n x p q d) (e : n ≤ m) : Fr m x p q d := by
  obtain ⟨u, v, w, rfl, hn, e1, e2⟩ := h
  exact ⟨u, v, w, rfl, hn.up e, e1, e2⟩
theorem KA.fr {n : Nat} {a b : Int → Int} {d : Int} (h : KA n a b d) {r : Int} (r0 : 0 ≤ r) (r4 : r ≤ 4) : Fr n (red (a r) (b r) d) (a r) (b r) d := fr_red (h.sa r r0 r4) (h.sb r r0 r4) h.sd h.d1
theorem sidesL_five : ∀ wl ∈ WL, ∀ s ∈ sidesL wl, s.length = 5 := by decide +kernel
/-! ### comprehensions by what they say -/
theorem lc_mf {σ : List SV} {i : Nat} {ft : GT} {fe : GE} {Q : List D → Prop} (c : D → Bool) (v : D → D) (hi : i < σ.length) : ∀ (xs acc : List D), (∀ x ∈ xs, ∀ Qd : Bool → Prop, Qd (c x) → ft (σ.set i (.d x)) Qd) → (∀ x ∈ xs, c x = true → ∀ Qd : D → Prop, Qd (v x) → fe (σ.set i (.d x)) Qd) → acc.length + xs.length ≤ sizeLine → Q (acc ++ (xs.filter c).map v) → lcG (ggName i) ft fe [i] σ Q xs acc
  | [], acc, _, _, _, q => by simpa [lcG] using q
  | x :: xs, acc, h, k, hl, q => by
    simp only [List.length_cons] at hl
    simp only [lcG, ggName, wipeD, List.set_set]
    refine h x List.mem_cons_self _ ?_
    have rest := fun acc' q' => lc_mf (Q := Q) c v hi xs acc' (fun y m => h y (List.mem_cons_of_mem _ m)) (fun y m => k y (List.mem_cons_of_mem _ m)) q'
    cases hc : c x
    · simp only [Bool.false_eq_true, if_false]
      exact rest acc (by omega) (by simpa [hc] using q)
    · simp only [if_true]
      refine k x List.mem_cons_self hc _ ?_
      exact ⟨by omega, rest _ (by simp; omega) (by simpa [hc] using q)⟩
theorem dirs_in {r : Int} (h : r ∈ dirs5) : 0 ≤ r ∧ r ≤ 4 := by
  simp only [dirs5, List.mem_cons, List.not_mem_nil, or_false] at h
  omega
/-- a for over range(n), by what holds before each turn -/
theorem forG_ix {gt : GG} {g : GS} {E : Ed} (S : Nat → List SV → Prop) (lo : Int) : ∀ (n i : Nat) (σ : List SV), S i σ → (∀ σ, S (i + n) σ → E.nx σ) →
    (∀ j, i ≤ j → j < i + n → ∀ σ, S j σ → ∀ E' : Ed, E'.rt = E.rt → (∀ σ2, S (j + 1) σ2 → E'.nx σ2) → (∀ σ2, S (j + 1) σ2 → E'.ct σ2) → gt (.int (lo + (j : Nat))) σ fun σ' => g E' σ') → forG gt g ((List.range' i n).map fun (j : Nat) => D.int (lo + (j : Int))) E σ
  | 0, i, σ, h, hn, _ => hn σ h
  | n + 1, i, σ, h, hn, step => by
    rw [List.range'_succ, List.map_cons]
    have rest : ∀ σ2, S (i + 1) σ2 → forG gt g ((List.range' (i + 1) n).map fun (j : Nat) => D.int (lo + (j : Int))) E σ2 := fun σ2 h2 =>
      forG_ix S lo n (i + 1) σ2 h2 (fun σ3 h3 => hn σ3 (by rw [show i + (n + 1) = i + 1 + n by omega]; exact h3)) fun j h0 h1 => step j (by omega) (by omega)
    exact step i (Nat.le_refl _) (by omega) σ h { E with nx := forG gt g _ E, ct := forG gt g _ E, bk := E.nx } rfl rest rest
theorem forG_rng {gt : GG} {g : GS} {E : Ed} (S : Nat → List SV → Prop) (lo : Int) (n : Nat) (σ : List SV) (h : S 0 σ) (hn : ∀ σ, S n σ → E.nx σ)
    (step : ∀ j, j < n → ∀ σ, S j σ → ∀ E' : Ed, E'.rt = E.rt → (∀ σ2, S (j + 1) σ2 → E'.nx σ2) → (∀ σ2, S (j + 1) σ2 → E'.ct σ2) → gt (.int (lo + (j : Nat))) σ fun σ' => g E' σ') : forG gt g (intsFrom lo n) E σ := by
  unfold intsFrom
  rw [List.range_eq_range']
  exact forG_ix S lo n 0 σ h (fun σ h => hn σ (by rwa [Nat.zero_add] at h)) fun j _ h1 => step j (by omega)
/-! ### keys from two neighbours -/
/-- keys whose neighbours differ by multiples differ by multiples -/
theorem KR.sub {a b a' b' : Int → Int} (h : KR a b) (h' : KR a' b') : KR (fun i => a' i - a i) (fun i => b' i - b i) := by
  obtain ⟨⟨a2, b2⟩, ⟨a3, b3⟩, ⟨a4, b4⟩⟩ := h
  obtain ⟨⟨a2', b2'⟩, ⟨a3', b3'⟩, ⟨a4', b4'⟩⟩ := h'
  exact ⟨⟨by omega, by omega⟩, ⟨by omega, by omega⟩, ⟨by omega, by omega⟩⟩
end ND

/-! ND46: zip of a tuple and a list -/
namespace ND
open PySem PySem.Spec L2
/-- it goes along the items of l, a list or a tuple, and stands before the i-th -/
def ItS (h : Heap) (it l : Addr) (i : Nat) (zs : Array Value) : Prop := (h.IsListIter it l i ∧ h.IsList l zs) ∨ (h.IsTupleIter it l i ∧ h.IsTuple l zs)
theorem ItS.keep {h h' : Heap} {it l : Addr} {i : Nat} {zs : Array Value} (x : ItS h it l i zs) (k1 : ∀ o, h.get? it = some o → h'.get? it = some o) (k2 : ∀ o, h.get? l = some o → h'.get? l = some o) : ItS h' it l i zs := by
  rcases x with ⟨a, b⟩ | ⟨a, ⟨o, ho, r⟩⟩
  · exact .inl ⟨a.at k1, b.at k2⟩
  · exact .inr ⟨a.at k1, o, k2 o ho, r⟩
section
variable {prog : Program} {w : World} {A : Around} {E : Value → Shared → Prop} {s : Shared}
end
/-! ### zip(a tuple, a list) -/
section
variable {prog : Program} {w : World} {A : Around} {E : Value → Shared → Prop} {s : Shared}
end
section
variable {B : Bs} {X : Cx} {e e2 : Expr} {pos : Pos}
end
end ND

/-! ND47: dict displays of several pairs, the bits of an int -/
namespace ND
open PySem PySem.Spec L2
section
variable {B : Bs} {X : Cx} {pos : Pos} {keys : List (Option Expr)} {vals : List Expr} {fs : List (Key × GE)}
/-! ### x.bit_length() -/
end
/-! ### C(k = v, ..), by name alone -/
section
variable {B : Bs} {X : Cx} {k n m : Nat} {ps ks : List Str} {dfl : List D} {sp : DSp} {R : Er → Prop} {E : XK} {x qual : Str} {st : Stmt} {p pos : Pos} {kws : List Keyword} {fk : GA} {pm : List Nat}
end
end ND

/-! ND48: the rests of corners, told by keys and side -/
namespace ND
open PySem PySem.Spec L2
theorem psg_scale {k : Int} (hk : 1 ≤ k) (a b : Int) : psg (k * a) (k * b) = psg a b := by
  have e1 : 2 * (k * a) + k * b = k * (2 * a + b) := by rw [Int.mul_add, Int.mul_left_comm]
  unfold psg
  rw [e1]
  generalize 2 * a + b = x
  have p0 : ∀ z : Int, (0 ≤ k * z) ↔ 0 ≤ z := fun z => ⟨fun h => by
    by_cases h1 : z < 0
    · have := Int.mul_neg_of_pos_of_neg (show 0 < k by omega) h1
      omega
    · omega, fun h => Int.mul_nonneg (by omega) h⟩
  have p1 : ∀ z : Int, (0 < k * z) ↔ 0 < z := fun z => ⟨fun h => by
    by_cases h1 : 0 < z
    · exact h1
    · have := Int.mul_nonpos_of_nonneg_of_nonpos (show 0 ≤ k by omega) (show z ≤ 0 by omega)
      omega, fun h => Int.mul_pos (by omega) h⟩
  have p2 : ∀ z : Int, (k * z ≤ 0) ↔ z ≤ 0 := fun z => by
    have := p1 z
    omega
  have p3 : (5 * (k * b) * (k * b) < k * x * (k * x)) ↔ 5 * b * b < x * x := by
    have e2 : k * x * (k * x) - 5 * (k * b) * (k * b) = k * (k * (x * x - 5 * b * b)) := by grind
    have h1 := p1 (k * (x * x - 5 * b * b))
    have h2 := p1 (x * x - 5 * b * b)
    generalize 5 * (k * b) * (k * b) = y1 at *
    generalize k * x * (k * x) = y2 at *
    generalize x * x = y3 at *
    generalize 5 * b * b = y4 at *
    omega
  simp only [p0, p1, p2, p3]
end ND

/-! ND49: {n: e}, n an integer -/
namespace ND
open PySem PySem.Spec L2
section
variable {B : Bs} {X : Cx} {e a b : Expr} {fa fb : GE} {pos : Pos}
end
/-! ### floors told by a dict -/
end ND

/-! ND50: the order of golden numbers, by Fibonacci's numbers; powers of g -/
namespace ND
open PySem PySem.Spec L2
theorem sqn (b : Int) : 0 ≤ b * b := by
  rcases Int.le_total 0 b with h | h
  · exact Int.mul_nonneg h h
  · exact Int.mul_nonneg_of_nonpos_of_nonpos h h
def fb : Nat → Int
  | 0 => 0
  | 1 => 1
  | n + 2 => fb n + fb (n + 1)
theorem fb_pos : ∀ n, 0 ≤ fb n ∧ 1 ≤ fb (n + 1) ∧ (n : Int) ≤ fb (n + 1) + 1 ∧ fb n ≤ fb (n + 2)
  | 0 => by decide
  | 1 => by decide
  | n + 2 => by
    obtain ⟨h1, h2, h3, h4⟩ := fb_pos n
    obtain ⟨k1, k2, k3, k4⟩ := fb_pos (n + 1)
    have e2 : fb (n + 2) = fb n + fb (n + 1) := rfl
    have e3 : fb (n + 3) = fb (n + 1) + fb (n + 2) := rfl
    have e4 : fb (n + 4) = fb (n + 2) + fb (n + 3) := rfl
    show 0 ≤ fb (n + 2) ∧ 1 ≤ fb (n + 3) ∧ ((n + 2 : Nat) : Int) ≤ fb (n + 3) + 1 ∧ fb (n + 2) ≤ fb (n + 4)
    have k3' : ((n + 1 : Nat) : Int) ≤ fb (n + 2) + 1 := k3
    refine ⟨by omega, by omega, by omega, by omega⟩
/-- Cassini -/
theorem fb_cas : ∀ n, (fb (n + 1) * fb (n + 1) - fb (n + 1) * fb n - fb n * fb n = 1) ∨ (fb (n + 1) * fb (n + 1) - fb (n + 1) * fb n - fb n * fb n = -1)
  | 0 => .inl (by decide)
  | n + 1 => by
    have e2 : fb (n + 2) = fb n + fb (n + 1) := rfl
    have h := fb_cas n
    show (fb (n + 2) * fb (n + 2) - fb (n + 2) * fb (n + 1) - fb (n + 1) * fb (n + 1) = 1) ∨ _ = -1
    rw [e2]
    have k : (fb n + fb (n + 1)) * (fb n + fb (n + 1)) - (fb n + fb (n + 1)) * fb (n + 1) - fb (n + 1) * fb (n + 1) = -(fb (n + 1) * fb (n + 1) - fb (n + 1) * fb n - fb n * fb n) := by grind
    rw [k]
    rcases h with h | h
    · exact .inr (by rw [h])
    · exact .inl (by rw [h]; rfl)
/-- nearly a + b g, times a positive number -/
def ph (n : Nat) (a b : Int) : Int := a * fb n + b * fb (n + 1)
theorem ph_g (n : Nat) (a b : Int) : ph n b (a + b) = ph (n + 1) a b := by
  unfold ph
  have e2 : fb (n + 1 + 1) = fb n + fb (n + 1) := rfl
  rw [e2]
  grind
theorem ph_add (n : Nat) (a b c d : Int) : ph n (a + c) (b + d) = ph n a b + ph n c d := by
  unfold ph
  grind
theorem ph_neg (n : Nat) (a b : Int) : ph n (-a) (-b) = -ph n a b := by
  unfold ph
  grind
/-- from some place on -/
def Ev2 (p : Nat → Prop) : Prop := ∃ N, ∀ n, N ≤ n → p n
theorem Ev2.and {p q : Nat → Prop} : Ev2 p → Ev2 q → Ev2 fun n => p n ∧ q n := fun ⟨N, h⟩ ⟨M, k⟩ => ⟨N + M, fun n hn => ⟨h n (by omega), k n (by omega)⟩⟩
theorem Ev2.imp {p q : Nat → Prop} (f : ∀ n, p n → q n) : Ev2 p → Ev2 q := fun ⟨N, h⟩ => ⟨N, fun n hn => f n (h n hn)⟩
theorem Ev2.nx {p : Nat → Prop} : Ev2 p → Ev2 fun n => p (n + 1) := fun ⟨N, h⟩ => ⟨N, fun n hn => h (n + 1) (by omega)⟩
theorem ev_pos1 {a b : Int} (h : psg a b = 1) : Ev2 fun n => 0 < ph n a b := by
  refine ⟨2 * b.natAbs + 8, fun n hn => ?_⟩
  obtain ⟨m, rfl⟩ : ∃ m, n = m + 1 := ⟨n - 1, by omega⟩
  obtain ⟨f0, f1, f2, _⟩ := fb_pos m
  obtain ⟨g0, g1, g2, _⟩ := fb_pos (m + 1)
  have cas := fb_cas (m + 1)
  unfold ph
  generalize hF : fb (m + 1) = F at *
  generalize hG : fb (m + 1 + 1) = G at *
  have hFG : F ≤ G := by
    have e : fb (m + 1 + 1) = fb m + fb (m + 1) := rfl
    omega
  obtain ⟨L, eL⟩ : ∃ L, L = 2 * G - F := ⟨_, rfl⟩
  have hL : 0 < L := by omega
  have e2 : 2 * (a * F + b * G) = (2 * a + b) * F + b * L := by
    subst eL
    grind
  have eLL : L * L = 5 * (F * F) + 4 * (G * G - G * F - F * F) := by
    subst eL
    grind
  obtain ⟨X, eX⟩ : ∃ X, X = 2 * a + b := ⟨_, rfl⟩
  rw [← eX] at e2
  have hFb : 2 * b.natAbs + 4 ≤ F := by omega
  suffices 0 < X * F + b * L by omega
  have lo : 5 * (F * F) - 4 ≤ L * L := by omega
  have hi : L * L ≤ 5 * (F * F) + 4 := by omega
  clear hG hF cas eLL e2 eL hFG g0 g1 g2 f0 f1 f2
  have hF0 : 0 < F := by omega
  unfold psg at h
  rw [← eX] at h
  have big : 4 * (b * b) < F * F := by
    have h1 : 2 * (b.natAbs : Int) < F := by omega
    have h2 : (2 * (b.natAbs : Int)) * (2 * (b.natAbs : Int)) < F * F := sq_lt (by omega) h1
    have h3 : ((b.natAbs : Int)) * (b.natAbs : Int) = b * b := by
      have := Int.natAbs_mul_self (a := b)
      simpa using this
    have h4 : (2 * (b.natAbs : Int)) * (2 * (b.natAbs : Int)) = 4 * ((b.natAbs : Int) * (b.natAbs : Int)) := by grind
    omega
  split at h
  · rename_i c
    split at h
    · rename_i c2
      rcases c2 with c2 | c2
      · have h1 := Int.mul_pos c2 hF0
        have h2 := Int.mul_nonneg c.2 (Int.le_of_lt hL)
        omega
      · have h1 := Int.mul_nonneg c.1 (Int.le_of_lt hF0)
        have h2 := Int.mul_pos c2 hL
        omega
    · cases h
  · rename_i c
    split at h
    · cases h
    · rename_i c2
      split at h
      · rename_i c3
        split at h
        · rename_i c4
          -- X > 0, b < 0, 5 b b < X X : X F > -b L
          have hb : b < 0 := by omega
          have h1 : (-b * L) * (-b * L) < (X * F) * (X * F) := by
            have k1 : (-b * L) * (-b * L) = b * b * (L * L) := by grind
            have k2 : (X * F) * (X * F) = X * X * (F * F) := by grind
            have k3 : (5 * b * b + 1) * (F * F) ≤ X * X * (F * F) := Int.mul_le_mul_of_nonneg_right (by omega) (Int.mul_nonneg (by omega) (by omega))
            have k4 : b * b * (L * L) ≤ b * b * (5 * (F * F) + 4) := Int.mul_le_mul_of_nonneg_left hi (sqn b)
            have k5 : (5 * b * b + 1) * (F * F) = b * b * (5 * (F * F) + 4) + (F * F - 4 * (b * b)) := by grind
            omega
          have h2 : -b * L < X * F := by
            rcases Int.lt_or_le (-b * L) (X * F) with z | z
            · exact z
            · have := sq_le (Int.mul_nonneg (Int.le_of_lt c3) (Int.le_of_lt hF0)) z
              omega
          have h3 : -b * L = -(b * L) := by grind
          omega
        · cases h
      · rename_i c3
        split at h
        · cases h
        · rename_i c4
          -- X ≤ 0, b > 0, X X ≤ 5 b b
          have hb : 0 < b := by omega
          have ne : X * X ≠ 5 * b * b := no_tie (by omega)
          have h1 : (-X * F) * (-X * F) < (b * L) * (b * L) := by
            have k1 : (-X * F) * (-X * F) = X * X * (F * F) := by grind
            have k2 : (b * L) * (b * L) = b * b * (L * L) := by grind
            have k3 : (X * X + 1) * (F * F) ≤ 5 * b * b * (F * F) := Int.mul_le_mul_of_nonneg_right (by omega) (Int.mul_nonneg (by omega) (by omega))
            have k4 : b * b * (5 * (F * F) - 4) ≤ b * b * (L * L) := Int.mul_le_mul_of_nonneg_left lo (sqn b)
            have k5 : b * b * (5 * (F * F) - 4) = 5 * b * b * (F * F) - 4 * (b * b) := by grind
            have k6 : (X * X + 1) * (F * F) = X * X * (F * F) + F * F := by grind
            omega
          have h2 : -X * F < b * L := by
            rcases Int.lt_or_le (-X * F) (b * L) with z | z
            · exact z
            · have := sq_le (Int.mul_nonneg (Int.le_of_lt hb) (Int.le_of_lt hL)) z
              omega
          have h3 : -X * F = -(X * F) := by grind
          omega
theorem psg_tri (a b : Int) : psg a b = 1 ∨ psg a b = 0 ∨ psg a b = -1 := by
  unfold psg
  repeat' split
  all_goals simp
theorem psg_zero {a b : Int} (h : psg a b = 0) : a = 0 ∧ b = 0 := by
  unfold psg at h
  repeat' split at h
  all_goals first | (exfalso; revert h; decide) | omega
/-- what is above zero -/
theorem pos_iff {a b : Int} : psg a b = 1 ↔ Ev2 fun n => 0 < ph n a b := by
  refine ⟨ev_pos1, fun h => ?_⟩
  rcases psg_tri a b with e | e | e
  · exact e
  · obtain ⟨rfl, rfl⟩ := psg_zero e
    obtain ⟨N, hN⟩ := h
    have := hN N (Nat.le_refl _)
    simp [ph] at this
  · have k : psg (-a) (-b) = 1 := by rw [psg_neg, e]; rfl
    obtain ⟨N, hN⟩ := h.and (ev_pos1 k)
    obtain ⟨h1, h2⟩ := hN N (Nat.le_refl _)
    rw [ph_neg] at h2
    omega
theorem pos_g {a b : Int} : psg b (a + b) = 1 ↔ psg a b = 1 := by
  rw [pos_iff, pos_iff]
  constructor
  · rintro ⟨N, h⟩
    refine ⟨N + 1, fun n hn => ?_⟩
    obtain ⟨m, rfl⟩ : ∃ m, n = m + 1 := ⟨n - 1, by omega⟩
    rw [← ph_g]
    exact h m (by omega)
  · rintro ⟨N, h⟩
    refine ⟨N, fun n hn => ?_⟩
    show 0 < ph n b (a + b)
    rw [ph_g]
    exact h (n + 1) (by omega)
theorem pos_add {a b c d : Int} (h : psg a b = 1) (k : psg c d = 1) : psg (a + c) (b + d) = 1 :=
  pos_iff.mpr (((ev_pos1 h).and (ev_pos1 k)).imp fun n ⟨x, y⟩ => by rw [ph_add]; omega)
/-! ### powers of g -/
def tg (p : Int × Int) : Int × Int := (p.2, p.1 + p.2)
def tl (p : Int × Int) : Int × Int := (p.2 - p.1, p.1)
end ND

/-! ND51: d["k"] -/
namespace ND
open PySem PySem.Spec L2
def valD (kvs : List (Key × D)) (k : Key) : Option D := (kvs.find? fun kv => decide (kv.1 = k)).map (·.2)
theorem RepKs.val {K : Kn} {F : Hp} {k : Key} {x : D} : ∀ {vs : List (Key × V)} {ds : List (Key × D)}, RepKs K F vs ds → valD ds k = some x → ∃ v, valV vs k = some v ∧ Rep K F v x
  | _, _, .nil, e => by cases e
  | _, _, .cons (k := k') (v := v) (d := d) r t, e => by
    unfold valD at e
    unfold valV
    by_cases h : k' = k
    · rw [List.find?_cons_of_pos (by simpa using h)] at e ⊢
      cases e
      exact ⟨v, rfl, r⟩
    · rw [List.find?_cons_of_neg (by simpa using h)] at e ⊢
      exact RepKs.val t e
section
variable {B : Bs} {X : Cx} {a : Expr} {fa : GE} {pos : Pos}
end
section
variable {a b : Int → Int} {d : Int} {s : List Int} {ta tb : Int → Int} {Q : D → Prop}
end
end ND

/-! ND52: != by one's own __eq__ -/
namespace ND
open PySem PySem.Spec L2
open PyProof.Rows (envOfC)
section
variable {X : Cx} {CX : CXT} {k : Nat} {f C : Addr} {fd : FuncData} {ps : List Str} {sp : Sp} {dvs : List V} {ds : List Value} {E : XK}
end
section
open PySem.W
variable {K : PySem.W.Frag} {x ox : Addr}
end
section
variable {B : Bs} {X : Cx} {known : Str → Bool} {k : Nat}
end
end ND

/-! ND53: str(x) by one's own __str__ -/
namespace ND
open PySem PySem.Spec L2
open PyProof.Rows (envOfC)
section
variable {X : Cx} {CX : CXT} {k : Nat} {f C : Addr} {fd : FuncData} {ps : List Str} {sp : Sp} {dvs : List V} {ds : List Value} {E : XK}
end
section
open PySem.W Builtin Builtin.Str
variable {K : PySem.W.Frag}
end
section
variable {B : Bs} {X : Cx} {known : Str → Bool} {k : Nat}
end
section
variable {P : Program} {w : World} {K : PySem.W.Frag} {mg : Str → Option Value} {base : Heap} {T : List (Addr × Str)} {k : Nat} {n qual : Str} {sp : DSp} {C f : Addr} {st : Stmt} {fd : FuncData}
end
/-! ### text.join(list) -/
section
variable {B : Bs} {X : Cx} {a b : Expr} {fa fb : GE} {pos apos : Pos}
end
end ND

/-! ND54: roots, floors, heights, crossings (what the laws work out) -/
namespace ND
open PySem PySem.Spec L2
/-! ### heights -/
structure HR (a b : Int → Int) : Prop where
  k0 : a 2 = b 1 - a 1 - a 0 ∧ b 2 = a 1 - b 0
  k1 : a 3 = b 2 - a 2 - a 1 ∧ b 3 = a 2 - b 1
  k2 : a 4 = b 3 - a 3 - a 2 ∧ b 4 = a 3 - b 2
theorem HR.k3 {a b : Int → Int} (h : HR a b) : a 0 = b 4 - a 4 - a 3 ∧ b 0 = a 4 - b 3 := by
  obtain ⟨⟨a2, b2⟩, ⟨a3, b3⟩, ⟨a4, b4⟩⟩ := h
  omega
theorem HR.k4 {a b : Int → Int} (h : HR a b) : a 1 = b 0 - a 0 - a 4 ∧ b 1 = a 0 - b 4 := by
  obtain ⟨⟨a2, b2⟩, ⟨a3, b3⟩, ⟨a4, b4⟩⟩ := h
  omega
/-- heights that are zero at two of them beside one another are zero -/
theorem HR.zero {a b : Int → Int} (h : HR a b) (e0 : a 0 = 0) (f0 : b 0 = 0) (e1 : a 1 = 0) (f1 : b 1 = 0) : ∀ i, 0 ≤ i → i ≤ 4 → a i = 0 ∧ b i = 0 := by
  obtain ⟨⟨a2, b2⟩, ⟨a3, b3⟩, ⟨a4, b4⟩⟩ := h
  intro i i0 i4
  rcases five_of i0 i4 with rfl | rfl | rfl | rfl | rfl <;> omega
end ND

/-! ND55: x, y = a list -/
namespace ND
open PySem PySem.Spec L2
section
variable {B : Bs} {X : Cx} {e : Expr} {fa : GE} {pos : Pos}
end
end ND

/-! ND56: the home of a floor, and its tile -/
namespace ND
open PySem PySem.Spec L2
/-- not below zero -/
def Nn (a b : Int) : Prop := psg a b = 1 ∨ (a = 0 ∧ b = 0)
theorem Nn.add {a b c d : Int} (h : Nn a b) (k : Nn c d) : Nn (a + c) (b + d) := by
  rcases h with h | ⟨rfl, rfl⟩
  · rcases k with k | ⟨rfl, rfl⟩
    · exact .inl (pos_add h k)
    · rw [Int.add_zero, Int.add_zero]
      exact .inl h
  · rw [Int.zero_add, Int.zero_add]
    exact k
theorem pos_nn {a b c d : Int} (h : psg a b = 1) (k : Nn c d) : psg (a + c) (b + d) = 1 := by
  rcases k with k | ⟨rfl, rfl⟩
  · exact pos_add h k
  · rw [Int.add_zero, Int.add_zero]
    exact h
theorem Nn.zero {a b c d : Int} (h : Nn a b) (k : Nn c d) (e1 : a + c = 0) (e2 : b + d = 0) : (a = 0 ∧ b = 0) ∧ c = 0 ∧ d = 0 := by
  rcases h with h | ⟨rfl, rfl⟩
  · have := pos_nn h k
    rw [e1, e2] at this
    exact absurd this (by decide)
  · exact ⟨⟨rfl, rfl⟩, by omega, by omega⟩
/-- times g, times g - 1 -/
theorem Nn.g {a b : Int} (h : Nn a b) : Nn b (a + b) := by
  rcases h with h | ⟨rfl, rfl⟩
  · exact .inl (pos_g.mpr h)
  · exact .inr ⟨rfl, rfl⟩
theorem pos_l {a b : Int} (h : psg a b = 1) : psg (b - a) a = 1 := by
  refine pos_g.mp ?_
  rw [show b - a + a = b by omega]
  exact h
theorem Nn.l {a b : Int} (h : Nn a b) : Nn (b - a) a := by
  rcases h with h | ⟨rfl, rfl⟩
  · exact .inl (pos_l h)
  · exact .inr ⟨rfl, rfl⟩
end ND

/-! ND57: the tile of the lines (0, 0) and (1, 0) stands -/
namespace ND
open PySem PySem.Spec L2
end ND

/-! ND58: what can be shown of numbers, keys and sides; the home's tile as a law works it out -/
namespace ND
open PySem PySem.Spec L2
theorem pok_tri {m : Nat} {a b c : Int} (h1 : Sz m a) (h2 : Sz m b) (h3 : Sz m c) : Pok 1 m 14000 (tri a b c) :=
  (pok_tup (n := 0) (m := m) (xs := [.int a, .int b, .int c]) rfl (by simp [sms, sm]; exact ⟨h1, h2, h3⟩)).up (by decide) (Nat.le_refl _) (by simp [rszs, rsz])
theorem Num.pok {n : Nat} {a b d : Int} (h : Num n a b d) (e : n ≤ 13000) : Pok 1 13000 14000 (tri a b d) := pok_tri (h.1.mono e) (h.2.1.mono e) (h.2.2.1.mono e)
end ND

/-! ND59: the five rests about a row; windows; a low tile stands where its four corners do -/
namespace ND
open PySem PySem.Spec L2
/-- A + B g above zero; a tie by the sign z -/
def Up (A B z : Int) : Prop := Nn A B ∧ (A = 0 → B = 0 → z = -1)
def Dn (A B z : Int) : Prop := Nn (-A) (-B) ∧ (A = 0 → B = 0 → z = 1)
theorem Up.of {A B z A' B' : Int} (h : Nn A' B') (e1 : A = A') (e2 : B = B') (t : A = 0 → B = 0 → z = -1) : Up A B z := ⟨e1 ▸ e2 ▸ h, t⟩
theorem Dn.of {A B z A' B' : Int} (h : Nn A' B') (e1 : -A = A') (e2 : -B = B') (t : A = 0 → B = 0 → z = 1) : Dn A B z := ⟨e1 ▸ e2 ▸ h, t⟩
theorem Up.pos {A B z A' B' : Int} (h : psg A' B' = 1) (e1 : A = A') (e2 : B = B') : Up A B z := Up.of (.inl h) e1 e2 fun x y => by
  rw [← e1, ← e2, x, y] at h
  exact absurd h (by decide)
theorem Dn.pos {A B z A' B' : Int} (h : psg A' B' = 1) (e1 : -A = A') (e2 : -B = B') : Dn A B z := Dn.of (.inl h) e1 e2 fun x y => by
  rw [← e1, ← e2, x, y] at h
  exact absurd h (by decide)
theorem Nn.z2 {a b c d A B : Int} (h : Nn a b) (k : Nn c d) (e1 : a + c = A) (e2 : b + d = B) (z : A = 0) (w : B = 0) : a = 0 ∧ b = 0 ∧ c = 0 ∧ d = 0 := by
  obtain ⟨⟨x, y⟩, u, v⟩ := Nn.zero h k (by omega) (by omega)
  exact ⟨x, y, u, v⟩
/-- the signs that sides can have -/
def TT (a b c d e : Int) : Prop := (b = 0 ∧ c = 0 ∧ d = 0 ∧ e = 0) ∨ (a = 0 ∧ c = 0 ∧ d = 0 ∧ e = 0) ∨ (a = 0 ∧ b = 0 ∧ d = 0 ∧ e = 0) ∨ (a = 0 ∧ b = 0 ∧ c = 0 ∧ e = 0) ∨ (a = 0 ∧ b = 0 ∧ c = 0 ∧ d = 0) ∨
  (a = 1 ∧ b = -1 ∧ c = 1 ∧ d = 1 ∧ e = -1) ∨ (a = -1 ∧ b = 1 ∧ c = -1 ∧ d = 1 ∧ e = 1) ∨ (a = 1 ∧ b = -1 ∧ c = 1 ∧ d = -1 ∧ e = 1) ∨ (a = 1 ∧ b = 1 ∧ c = -1 ∧ d = 1 ∧ e = -1) ∨ (a = -1 ∧ b = 1 ∧ c = 1 ∧ d = -1 ∧ e = 1) ∨
  (a = -1 ∧ b = 1 ∧ c = -1 ∧ d = -1 ∧ e = 1) ∨ (a = 1 ∧ b = -1 ∧ c = 1 ∧ d = -1 ∧ e = -1) ∨ (a = -1 ∧ b = 1 ∧ c = -1 ∧ d = 1 ∧ e = -1) ∨ (a = -1 ∧ b = -1 ∧ c = 1 ∧ d = -1 ∧ e = 1) ∨ (a = 1 ∧ b = -1 ∧ c = -1 ∧ d = 1 ∧ e = -1)
set_option synthInstance.maxHeartbeats 400000 in
set_option synthInstance.maxSize 4000 in
instance (a b c d e : Int) : Decidable (TT a b c d e) := by
  unfold TT
  infer_instance
theorem TT.n1 {a b c d e : Int} (h : TT a b c d e) (hd : d = 1) (hb : b = -1) : a = 1 := by
  rcases h with h | h | h | h | h | h | h | h | h | h | h | h | h | h | h <;> omega
theorem TT.n2 {a b c d e : Int} (h : TT a b c d e) (hd : d = 1) (ha : a = -1) : b = 1 := by
  rcases h with h | h | h | h | h | h | h | h | h | h | h | h | h | h | h <;> omega
def H1 (P Q S : Int → Int) (d : Int) : Prop := ∀ i, 0 ≤ i → i ≤ 4 → Dn (P i - d) (Q i) (S i)
def H2 (P Q S : Int → Int) (d : Int) : Prop := ∀ i, 0 ≤ i → i ≤ 4 → Up (P i - d) (Q i + d) (S i)
def H3 (P Q S : Int → Int) (d : Int) : Prop := ∀ i, 0 ≤ i → i ≤ 4 → Dn (P i - 2 * d) (Q i) (S i)
def H4 (P Q S : Int → Int) (d : Int) : Prop := ∀ i, 0 ≤ i → i ≤ 4 → Up (P i - 2 * d) (Q i + d) (S i)
theorem h5 {C : Int → Prop} (h0 : C 0) (h1 : C 1) (h2 : C 2) (h3 : C 3) (h4 : C 4) : ∀ i, 0 ≤ i → i ≤ 4 → C i := fun i i0 i4 => by
  rcases five_of i0 i4 with rfl | rfl | rfl | rfl | rfl <;> assumption
end ND

/-! ND60: rows of a floor by their rests; a tile stands where its four corners do -/
namespace ND
open PySem PySem.Spec L2
structure Fl (a b : Int → Int) (d : Int) (s : List Int) : Prop where
  kr : KR a b
  d1 : 1 ≤ d
  hs : s ∈ sidesL (whL a b d)
theorem KA.fl {n : Nat} {a b : Int → Int} {d : Int} {s : List Int} (h : KA n a b d) (hs : s ∈ sidesL (whL a b d)) : Fl a b d s := ⟨h.r, h.d1, hs⟩
end ND

/-! ND61: a corner that only one of two floors beside one another has, has three edges -/
namespace ND
open PySem PySem.Spec L2
/-! ### the level 2 -/
end ND

/-! ND62: stars; three edges -/
namespace ND
open PySem PySem.Spec L2
section
variable {a b : Int → Int} {d : Int} {s : List Int} {f : Int → Int} {j r : Int}
theorem nf {x : Bool} {A : Prop} (hx : x = true ↔ A) (h : ¬ A) : x = false := by
  cases x
  · rfl
  · exact (h (hx.mp rfl)).elim
end
/-! ### the opposite floor -/
end ND

/-! ND63: floors whose keys are moved a very little -/
namespace ND
open PySem PySem.Spec L2
theorem psg_one_iff {a b : Int} : psg a b = 1 ↔ (0 ≤ 2 * a + b ∧ 0 ≤ b ∧ (0 < 2 * a + b ∨ 0 < b)) ∨ (0 < 2 * a + b ∧ b < 0 ∧ 5 * b * b < (2 * a + b) * (2 * a + b)) ∨ (2 * a + b < 0 ∧ 0 < b ∧ (2 * a + b) * (2 * a + b) ≤ 5 * b * b) := by
  unfold psg
  generalize 5 * b * b = p
  generalize (2 * a + b) * (2 * a + b) = q
  generalize 2 * a + b = x
  constructor
  · intro h
    repeat' split at h
    all_goals omega
  · intro h
    repeat' split
    all_goals omega
/-! ### floors told by a dict that tells the whole directions, too -/
section
variable {a b : Int → Int} {d : Int} {s : List Int} {ta tb : Int → Int} {Q : D → Prop}
end
/-! ### a comprehension over what a list of anything tells -/
/-! ### any value as a corner -/
/-! ### floors beside one another -/
def FlD (x : D) (a b : Int → Int) (d : Int) (s : List Int) : Prop := x = flo (keyD a b d) s ∧ KA 4000 a b d ∧ s ∈ sidesL (whL a b d)
theorem FlD.len {x : D} {a b : Int → Int} {d : Int} {s : List Int} (h : FlD x a b d s) : s.length = 5 := sidesL_five _ (whL_mem h.2.1.r) s h.2.2
end ND

/-! ND64: letters of a text, one by one -/
namespace ND
open PySem PySem.Spec L2
section
variable {B : Bs} {X : Cx} {e : Expr} {fa : GE}
end
end ND

/-! ND65: gathered floors -/
namespace ND
open PySem PySem.Spec L2
theorem KR.gt {a b : Int → Int} (h : KR a b) : KR (fun r => -b r) (fun r => -(a r + b r)) := by
  obtain ⟨⟨a2, b2⟩, ⟨a3, b3⟩, ⟨a4, b4⟩⟩ := h
  exact ⟨⟨by omega, by omega⟩, ⟨by omega, by omega⟩, ⟨by omega, by omega⟩⟩
theorem KR.ct {a b : Int → Int} (h : KR a b) : KR (fun r => -(b r - a r)) (fun r => -a r) := by
  obtain ⟨⟨a2, b2⟩, ⟨a3, b3⟩, ⟨a4, b4⟩⟩ := h
  exact ⟨⟨by omega, by omega⟩, ⟨by omega, by omega⟩, ⟨by omega, by omega⟩⟩
theorem KA.gt {n : Nat} {a b : Int → Int} {d : Int} (h : KA n a b d) : KA (n + 1) (fun r => -b r) (fun r => -(a r + b r)) d :=
  ⟨KR.gt h.r, h.d1, h.sd.mono (by omega), fun i i0 i4 => ((h.sb i i0 i4).neg).mono (by omega), fun i i0 i4 => ((h.sa i i0 i4).add (h.sb i i0 i4)).neg⟩
theorem KA.ct {n : Nat} {a b : Int → Int} {d : Int} (h : KA n a b d) : KA (n + 1) (fun r => -(b r - a r)) (fun r => -a r) d :=
  ⟨KR.ct h.r, h.d1, h.sd.mono (by omega), fun i i0 i4 => ((h.sb i i0 i4).sub (h.sa i i0 i4)).neg, fun i i0 i4 => ((h.sa i i0 i4).neg).mono (by omega)⟩
theorem Fr.gt {n : Nat} {x : D} {p q d : Int} (h : Fr n x p q d) : ∃ u v w, x = tri u v w ∧ Num n u v w ∧ Fr (n + 1) (tri (-v) (-(u + v)) w) (-q) (-(p + q)) d ∧ Fr (n + 1) (tri (-(v - u)) (-u) w) (-(q - p)) (-p) d := by
  obtain ⟨u, v, w, rfl, hn, e1, e2⟩ := h
  have g1 : -v * d = -q * w := by rw [Int.neg_mul, Int.neg_mul, e2]
  have g2 : -(u + v) * d = -(p + q) * w := by
    rw [Int.neg_mul, Int.neg_mul, Int.add_mul, Int.add_mul, e1, e2]
  have g3 : -(v - u) * d = -(q - p) * w := by
    rw [Int.neg_mul, Int.neg_mul, Int.sub_mul, Int.sub_mul, e1, e2]
  have g4 : -u * d = -p * w := by rw [Int.neg_mul, Int.neg_mul, e1]
  exact ⟨u, v, w, rfl, hn, ⟨_, _, _, rfl, ⟨hn.2.1.neg.mono (by omega), (hn.1.add hn.2.1).neg, hn.2.2.1.mono (by omega), hn.2.2.2⟩, g1, g2⟩, ⟨_, _, _, rfl, ⟨(hn.2.1.sub hn.1).neg, hn.1.neg.mono (by omega), hn.2.2.1.mono (by omega), hn.2.2.2⟩, g3, g4⟩⟩
end ND

/-! ND66: bars and their phases -/
namespace ND
open PySem PySem.Spec L2
section
variable {a b : Int → Int} {d : Int} {s : List Int} {j : Int}
/-! ### gathered -/
theorem psg_mul {p q d : Int} (hd : 1 ≤ d) (h : psg p q = 1) : psg (p * d) (q * d) = 1 := by
  rw [Int.mul_comm p, Int.mul_comm q, psg_scale hd]
  exact h
end
end ND

/-! ND67: gaps as texts -/
namespace ND
open PySem PySem.Spec L2
/-! ### along the bars -/
section
variable {a b : Int → Int} {d : Int} {s : List Int} {j : Int}
end
end ND

/-! ND68: z[::-1] of a text -/
namespace ND
open PySem PySem.Spec L2
open PyProof.Rows
section
variable {B : Bs} {X : Cx} {e a b : Expr} {fa fb : GE} {pos : Pos}
end
end ND

/-! ND69: phases, their letters, and how long two of them agree -/
namespace ND
open PySem PySem.Spec L2
structure Ph (d a b : Int) : Prop where
  d1 : 1 ≤ d
  lo : psg (a - d) (b + d) = 1
  hi : psg (d - a) (-b) = 1
  nz : a % d ≠ 0 ∨ b % d ≠ 0
def plL (d : Int) : Nat → Int → Int → List Bool
  | 0, _, _ => []
  | n + 1, a, b => if psg a b < 0 then false :: plL d n (a + d) b else true :: plL d n (a + d) (b - d)
theorem pos2 {A B C D X Y : Int} (h : psg A B = 1) (k : psg C D = 1) (e1 : X = A + C) (e2 : Y = B + D) : psg X Y = 1 := by
  subst e1 e2
  exact pos_add h k
theorem pos_k {d u v X Y : Int} (hd : 1 ≤ d) (h : psg u v = 1) (e1 : X = u * d) (e2 : Y = v * d) : psg X Y = 1 := by
  subst e1 e2
  exact psg_mul hd h
theorem pos_gq {A B X Y : Int} (h : psg A B = 1) (e1 : X = B) (e2 : Y = A + B) : psg X Y = 1 := by
  subst e1 e2
  exact pos_g.mpr h
theorem neg_up {a b : Int} : psg a b = -1 ↔ psg (-a) (-b) = 1 := by
  rw [psg_neg]
  omega
section
variable {d a b p q : Int}
theorem Ph.ne (h : Ph d a b) : psg a b = 1 ∨ psg a b = -1 := by
  rcases psg_tri a b with e | e | e
  · exact .inl e
  · obtain ⟨rfl, rfl⟩ := psg_zero e
    have := h.nz
    simp at this
  · exact .inr e
theorem Ph.dn (h : Ph d a b) (k : psg a b = -1) : Ph d (a + d) b := by
  have d1 := h.d1
  have k2 := neg_up.mp k
  refine ⟨d1, ?_, ?_, ?_⟩
  · exact pos2 h.lo (pos_k (u := 1) (v := 0) (X := d) (Y := 0) d1 (by decide) (by omega) (by omega)) (by omega) (by omega)
  · rw [show d - (a + d) = -a by omega]
    exact k2
  · rw [Int.add_emod_right]
    exact h.nz
theorem Ph.up (h : Ph d a b) (k : psg a b = 1) : Ph d (a + d) (b - d) := by
  have d1 := h.d1
  refine ⟨d1, ?_, ?_, ?_⟩
  · rw [show a + d - d = a by omega, show b - d + d = b by omega]
    exact k
  · exact pos2 h.hi (pos_k (u := -1) (v := 1) (X := -d) (Y := d) d1 (by decide) (by omega) (by omega)) (by omega) (by omega)
  · rw [Int.add_emod_right, Int.sub_emod_right]
    exact h.nz
theorem Ph.gt (h : Ph d a b) (k : psg (2 * d - a) (-d - b) = 1) : Ph d (-b) (-a - b) := by
  have d1 := h.d1
  refine ⟨d1, ?_, ?_, ?_⟩
  · exact pos_gq k (by omega) (by omega)
  · exact pos_gq h.lo (by omega) (by omega)
  · have := h.nz
    rcases Int.emod_emod_of_dvd a (Int.dvd_refl d) with _
    by_cases hb : b % d = 0
    · right
      intro z
      have e1 : d ∣ b := Int.dvd_of_emod_eq_zero hb
      have e2 : d ∣ -a - b := Int.dvd_of_emod_eq_zero z
      have e3 : d ∣ a := by
        have := Int.dvd_neg.mpr (Int.dvd_add e2 e1)
        rw [show -(-a - b + b) = a by omega] at this
        exact this
      have := Int.emod_eq_zero_of_dvd e3
      omega
    · left
      intro z
      exact hb (Int.emod_eq_zero_of_dvd (Int.dvd_neg.mp (Int.dvd_of_emod_eq_zero z)))
/-! ### how long two phases agree -/
/-- what g does n times to x + y g is more than 2 d -/
def GW (d : Int) : Nat → Int → Int → Prop
  | 0, x, y => psg (x - 2 * d) y = 1
  | n + 1, x, y => GW d n y (x + y)
end
end ND

/-! ND70: two phases agree for a told number of letters; letters backwards; phases of bars -/
namespace ND
open PySem PySem.Spec L2
section
variable {d a b p q : Int}
theorem GW.big {D : Int} : ∀ (k : Nat) (u v m : Int), m ≤ u → m ≤ v → 0 ≤ m → 2 * D < m * 2 ^ k → GW D (2 * k) u v
  | 0, u, v, m, h1, h2, h3, h4 => by
    show psg (u - 2 * D) v = 1
    rw [psg_one_iff]
    have : m * 2 ^ 0 = m := by simp
    exact .inl ⟨by omega, by omega, by omega⟩
  | k + 1, u, v, m, h1, h2, h3, h4 => by
    show GW D (2 * k) (u + v) (v + (u + v))
    refine GW.big k _ _ (2 * m) (by omega) (by omega) (by omega) ?_
    rw [Int.pow_succ, show m * (2 ^ k * 2) = 2 * m * 2 ^ k by grind] at h4
    exact h4
/-! ### backwards -/
def plP (d : Int) : Nat → Int → Int → Int × Int
  | 0, a, b => (a, b)
  | n + 1, a, b => if psg a b < 0 then plP d n (a + d) b else plP d n (a + d) (b - d)
theorem pl_up : ∀ (n : Nat) (a b : Int), plP d (n + 1) a b = (if psg (plP d n a b).1 (plP d n a b).2 < 0 then ((plP d n a b).1 + d, (plP d n a b).2) else ((plP d n a b).1 + d, (plP d n a b).2 - d)) ∧ plL d (n + 1) a b = plL d n a b ++ [decide (¬ psg (plP d n a b).1 (plP d n a b).2 < 0)]
  | 0, a, b => by
    refine ⟨rfl, ?_⟩
    show (if _ then _ else _) = [decide (¬ psg a b < 0)]
    by_cases h : psg a b < 0 <;> simp [h, plL]
  | n + 1, a, b => by
    rw [plP]
    conv =>
      arg 1
      rhs
      unfold plP
    conv =>
      arg 2
      rw [plL]
      rhs
      unfold plL plP
    by_cases h : psg a b < 0
    · simp only [if_pos h]
      obtain ⟨h1, h2⟩ := pl_up n (a + d) b
      exact ⟨h1, by rw [h2]; rfl⟩
    · simp only [if_neg h]
      obtain ⟨h1, h2⟩ := pl_up n (a + d) (b - d)
      exact ⟨h1, by rw [h2]; rfl⟩
theorem Ph.next (h : Ph d a b) : ∀ n : Nat, Ph d (plP d n a b).1 (plP d n a b).2
  | 0 => h
  | n + 1 => by
    have ih := h.next n
    rw [(pl_up n a b).1]
    rcases ih.ne with e | e
    · rw [if_neg (by omega)]
      exact ih.up e
    · rw [if_pos (by omega)]
      exact ih.dn e
end
/-! ### bars -/
section
variable {a b : Int → Int} {d : Int} {s : List Int} {j : Int}
end
end ND

/-! ND71: targets that are items of lists of one's own: x[i], y[j] = .. -/
namespace ND
open PySem PySem.Spec L2
open PyProof.Rows (envOfC)
variable {B : Bs} {X : Cx} {e t : Expr} {ts : List Expr} {pos : Pos} {fa : GE}
end ND

/-! ND72: defs with one keyword-only parameter, an int by default: called without it -/
namespace ND
open PySem PySem.Spec L2
open PyProof.Rows (envOfC)
section
variable {B : Bs} {X : Cx} {k : Nat} {f : Addr} {fd : FuncData} {ps : List Str} {sp : DSp} {R : Er → Prop} {E : XK} {x y : Str} {i : Int} {st : Stmt} {p pos : Pos} {e : Expr} {es : List Expr} {fs : GA}
end
end ND

/-! ND73: heights of bars -/
namespace ND
open PySem PySem.Spec L2
def hA (x y : Int) : Int := 4 * x - 2 * y - 1
theorem Nn.k {a b k : Int} (h : Nn a b) (hk : 1 ≤ k) : Nn (k * a) (k * b) := by
  rcases h with h | ⟨rfl, rfl⟩
  · exact .inl (by rw [psg_scale hk]; exact h)
  · exact .inr ⟨Int.mul_zero _, Int.mul_zero _⟩
section
variable {a b : Int → Int} {d : Int} {s : List Int} {j : Int}
end
end ND

/-! ND74: range(i, j) with any integers -/
namespace ND
open PySem PySem.Spec L2
open PyProof.Rows (envOfC boot_range)
variable {B : Bs} {X : Cx} {e a b : Expr} {tg : Expr}
end ND

/-! ND75: a op b op c op d -/
namespace ND
open PySem PySem.Spec L2
open PyProof.Rows (Compare_chain chain_link chain_last ite_ff ite_tt)
section
variable {B : Bs} {X : Cx} {a b c d : Expr} {pos : Pos} {ta tb tc td : TE}
def tChain3 (r r' r'' : R2) (ta tb tc td : TE) : TE := fun σ H Q => ta σ H fun x H1 => tb σ H1 fun y H2 => r x y H2 fun z H3 => ∃ k, z = .bl k ∧
  (if k = true then tc σ H3 fun w' H4 => r' y w' H4 fun z2 H5 => ∃ k2, z2 = .bl k2 ∧ (if k2 = true then td σ H5 fun u' H6 => r'' w' u' H6 Q else Q (.bl false) H5) else Q (.bl false) H3)
theorem pe_chain3 {op op' op'' : CmpOp} {r r' r'' : R2} (ho : OpR X (compareOp op) r) (ho' : OpR X (compareOp op') r') (ho'' : OpR X (compareOp op'') r'') (ha : PE X a ta) (hb : PE X b tb) (hc : PE X c tc) (hd : PE X d td)
    (hm : lastMarks [op, op', op''] [b, c, d] = false := by with_unfolding_all rfl) : PE X (.Compare a [op, op', op''] [b, c, d] pos) (tChain3 r r' r'' ta tb tc td) := by
  refine ⟨fun pins s σ H Q I h => ?_⟩
  refine Compare_chain (thn (ha.run pins s σ H _ I h) fun v s1 ⟨x, H1, I1, r1, q1⟩ => chain_link (thn (hb.run pins s1 σ H1 _ I1 q1) fun u s2 ⟨y, H2, I2, r2, q2⟩ =>
    thn (ho pins s2 σ H2 x y v u _ I2 r1 r2 q2) fun d s3 ⟨z, H3, I3, r3, k, e, q3⟩ => ?_)) hm
  subst e
  cases r3
  refine wpAny_truthy_bool ?_
  cases k with
  | false => exact ite_ff ⟨.bl false, H3, I3, rfl, q3⟩
  | true =>
    refine ite_tt (chain_link (thn (hc.run pins s3 σ H3 _ I3 q3) fun w' s4 ⟨z', H4, I4, r4, q4⟩ => thn (ho' pins s4 σ H4 y z' u w' _ I4 r2 r4 q4) fun d2 s5 ⟨z2, H5, I5, r5, k2, e2, q5⟩ => ?_))
    subst e2
    cases r5
    refine wpAny_truthy_bool ?_
    cases k2 with
    | false => exact ite_ff ⟨.bl false, H5, I5, rfl, q5⟩
    | true => exact ite_tt (chain_last (thn (hd.run pins s5 σ H5 _ I5 q5) fun u' s6 ⟨z3, H6, I6, r6, q6⟩ => ho'' pins s6 σ H6 z' z3 w' u' Q I6 r4 r6 q6))
variable {g g' g'' : D → D → (D → Prop) → Prop} {fa fb fc fd : GE}
@[simp] def gChain3 (g g' g'' : D → D → (D → Prop) → Prop) (fa fb fc fd : GE) (σ : List SV) (Q : D → Prop) : Prop := fa σ fun x => fb σ fun y => g x y fun r => isBl r fun b => iteB b (fc σ fun z => g' y z fun r2 => isBl r2 fun b2 => iteB b2 (fd σ fun u => g'' z u Q) (Q (.bl false))) (Q (.bl false))
theorem lo_chain3 {K : Kn} {s : L2.St} {σ : List SV} {F H : Hp} {Qd : D → Prop} {Q : VK} (R : Rel B K σ s F H) (q : gChain3 g g' g'' fa fb fc fd σ Qd) (k : Fin B K F H Qd Q) : tChain3 (LO2 B K g) (LO2 B K g') (LO2 B K g'') (LB B K fa) (LB B K fb) (LB B K fc) (LB B K fd) s H Q := by
  refine lb_two (R2 := fun x y H2 => LO2 B K g x y H2 fun z H3 => ∃ k, z = .bl k ∧ (if k = true then LB B K fc s H3 fun w' H4 => LO2 B K g' y w' H4 fun z2 H5 => ∃ k2, z2 = .bl k2 ∧ (if k2 = true then LB B K fd s H5 fun u' H6 => LO2 B K g'' w' u' H6 Q else Q (.bl false) H5) else Q (.bl false) H3)) R q fun x y F1 H1 v u qq g1 dk r1 r2 => ?_
  refine ⟨F1, x, y, _, g1.fh, dk, r1, r2, qq, fun d qq3 F2 H2 w g2 dk2 r3 => ?_⟩
  obtain ⟨b, e, q3⟩ := isBl_ex qq3
  subst e
  cases r3
  refine ⟨b, rfl, ?_⟩
  cases b with
  | false => exact k _ q3 F2 H2 _ (g1.trans g2) dk2 (.bl false)
  | true =>
    refine ⟨σ, F2, _, R.grow (g1.trans g2) dk2, q3, fun z qz F3 H3 w3 g3 dk3 r4 => ⟨F3, y, z, _, g3.fh, dk3, r2.grow (g2.trans g3), r4, qz, fun d2 qq4 F4 H4 w4 g4 dk4 r5 => ?_⟩⟩
    obtain ⟨b2, e2, q5⟩ := isBl_ex qq4
    subst e2
    cases r5
    refine ⟨b2, rfl, ?_⟩
    have g14 := ((g1.trans g2).trans g3).trans g4
    cases b2 with
    | false => exact k _ q5 F4 H4 _ g14 dk4 (.bl false)
    | true => exact ⟨σ, F4, _, R.grow g14 dk4, q5, fun z2 qz2 F5 H5 w5 g5 dk5 r6 => ⟨F5, z, z2, Qd, g5.fh, dk5, r4.grow (g4.trans g5), r6, qz2, k.more (g14.trans g5)⟩⟩
theorem ed_chain3 {op op' op'' : CmpOp} (ho : OpR X (compareOp op) (LO2 B X.kn g)) (ho' : OpR X (compareOp op') (LO2 B X.kn g')) (ho'' : OpR X (compareOp op'') (LO2 B X.kn g'')) (ha : BD B X a fa) (hb : BD B X b fb) (hc : BD B X c fc) (hd : BD B X d fd)
    (hm : lastMarks [op, op', op''] [b, c, d] = false := by with_unfolding_all rfl) : ED B X (.Compare a [op, op', op''] [b, c, d] pos) (gChain3 g g' g'' fa fb fc fd) :=
  ⟨pe_imp (pe_chain3 ho ho' ho'' ha.run hb.run hc.run hd.run hm) fun s H Q ⟨σ, F, Qd, R, q, k⟩ => lo_chain3 R q k⟩
end
end ND

/-! ND76: try whose clauses may go on behind it -/
namespace ND
open PySem PySem.Spec L2
open PyProof.Rows (envOfC)
/-- the name of the error is gone behind the clause -/
def gnS (sl : Option Nat) (σ : List SV) : List SV := match sl with
  | none => σ
  | some i => σ.set i .no
/-- what is wanted of an error: by the first clause that takes it, else out -/
def hdN (M : Str → Str → Option Bool) (n : Nat) (out : Er → Prop) (E : Ed) : List Cls3 → Er → Prop
  | [], er => out er
  | c :: r, er => ∃ b, M er.nm c.nm = some b ∧ if b = true then ∀ a, c.g er a { nx := fun σ => E.nx (gnS c.slot σ), rt := E.rt, bk := fun _ => False, ct := fun _ => False } (clauseStart n a c.slot) else hdN M n out E r er
section
variable {B : Bs} {X : Cx} {M : Str → Str → Option Bool}
theorem ClausesOk.takesN {hs : List ExceptHandler} {l : List Cls3} {l' : List Hdl} (ok : ClausesOk B X hs l l') {F H F' H' : Hp} {Ed : Ed} {Dn : Ends} {Wout : WX} {out : Er → Prop} {cls : Value} {d : Option Addr} {er : Er} {s : L2.St} (hM : ClsTab X.kn M)
    (k : EdOk B X.kn F Ed Dn) (b0 : Grow B.W B.F B.H F H) (bdk : DeckIn B.W B.F B.H) (g : Grow B.W F H F' H') (dk : DeckIn B.W F' H') (rp : RepEr X.kn F' H' cls d er) (hl : s.length = X.N.length)
    (ho : out er → Wout cls d s H') (w : hdN M X.N.length out Ed l er) : wH X.K Wout Dn l' cls d s H' := by
  have g0 : Grow B.W B.F B.H F' H' := b0.trans g
  have ends : ∀ i : Option Nat, EdOk ⟨B.W, F', H'⟩ X.kn F' { nx := fun σ => Ed.nx (gnS i σ), rt := Ed.rt, bk := fun _ => False, ct := fun _ => False } (match i with | none => Dn | some i => goneD Dn i) := fun i =>
    ⟨fun σ s2 F2 H2 e R q => by
      have R2 := Rel.rebase g0 bdk R
      have e2 : Same F F2 := g.ff.trans e
      cases i with
      | none => exact k.nx σ s2 F2 H2 e2 R2 q
      | some i => exact k.nx _ _ F2 H2 e2 R2.drop q, fun dd v F2 H2 g2 dk2 r2 q => by
      have := k.rt dd v F2 H2 (g0.trans g2) dk2 r2 q
      cases i <;> exact this, fun _ _ _ _ _ _ z => z.elim, fun _ _ _ _ _ _ z => z.elim⟩
  induction ok with
  | nil => exact ho w
  | @plain x cv gg b₀ suite np pos' hs l l' hg nd hm body r ih =>
    obtain ⟨b, hb, q⟩ := w
    refine ⟨b, hM _ _ _ _ _ hb rp.1 hm, fun e a na => ?_, fun e => ?_⟩
    · subst e
      have q1 := q a
      have R := rel_no (W := B.W) (K := X.kn) g.fh dk s
      rw [hl] at R
      exact ⟨F', H', er, ⟨g.fh, dk, rp⟩, _, F', _, R, q1, ends none⟩
    · subst e
      exact ih q
  | @named x n i cv gg b₀ suite np pos' hs l l' hg nd hm hi hll body r ih =>
    obtain ⟨b, hb, q⟩ := w
    refine ⟨b, hM _ _ _ _ _ hb rp.1 hm, fun e a na => ?_, fun e => ?_⟩
    · subst e
      have q1 := q a
      have R := (rel_no (W := B.W) (K := X.kn) g.fh dk s).set (i := i) (v := .ref a) (x := .opq (.ref a)) (.opq _)
      rw [hl] at R
      exact ⟨F', H', er, ⟨g.fh, dk, rp⟩, _, F', _, R, q1, ends (some i)⟩
    · subst e
      exact ih q
/-- try: body, except ..: clauses, which return or go on; the body has no list of its own from before -/
@[simp] def gTryN (M : Str → Str → Option Bool) (n : Nat) (R : Er → Prop) (tb : (Er → Prop) → GS) (l : List Cls3) (E : Ed) (σ : List SV) : Prop := tb (hdN M n R E l) E (noOwn σ)
theorem sd_tryN {body : List Stmt} {h₀ : ExceptHandler} {hs : List ExceptHandler} {l : List Cls3} {l' : List Hdl} {tb : (Er → Prop) → GS} {pos : Pos} {R : Er → Prop} {E : XK} (hst : X.stack = X.env :: X.outer) (hf : X.env.frame = some X.env.locals) (hN : X.N.Nodup)
    (tk : Takes X (fun c o _ H => E c o H)) (hE : FinE B.W X.kn B.F B.H R E) (hM : ClsTab X.kn M)
    (hb : ∀ (F1 H1 : Hp), Grow B.W B.F B.H F1 H1 → DeckIn B.W F1 H1 → ∀ (Wx : WX) (pn : List (Addr × Obj)) (xe : Value → Shared → Prop) (R' : Er → Prop), Takes (X.tr pn xe) Wx → FinE B.W X.kn F1 H1 R' (fun c o H => ∀ s : L2.St, s.length = X.N.length → Wx c o s H) → PassesOwn (model X.prog X.w) X.A X.env xe → SDs ⟨B.W, F1, H1⟩ (X.tr pn xe) body (tb R'))
    (hh : ClausesOk B X (h₀ :: hs) l l') : SD B X (.Try body (h₀ :: hs) [] [] pos) (gTryN M X.N.length R tb l) :=
  ⟨ps_imp (ps_try_h (Wout := fun c o _ H => E c o H) (tb := fun W Dn s H => ∃ F1 H1 R', Grow B.W B.F B.H F1 H1 ∧ DeckIn B.W F1 H1 ∧ FinE B.W X.kn F1 H1 R' (fun c o H => ∀ s : L2.St, s.length = X.N.length → W c o s H) ∧ LS ⟨B.W, F1, H1⟩ X.kn (tb R') Dn s H) hst hf hN tk
      (fun W pn xe tk' po => ⟨fun pins s σ H Dn I ⟨F1, H1, R', g1, d1, fin, q⟩ => (hb F1 H1 g1 d1 W pn xe R' tk' fin po).run.run pins s σ H Dn I q⟩) hh.hdls)
    fun Dn s H ⟨σ, F, Ed, Rl, q, k⟩ => ⟨F, H, hdN M X.N.length R Ed l, Rl.base, Rl.deck, fun er w F' H' c o g dk rp s' hl =>
      hh.takesN hM k Rl.base Rl.bdk g dk rp hl (fun ro => hE er ro F' H' c o (Rl.base.trans g) dk rp) w, noOwn σ, F, Ed, rel_noOwn Rl, q,
      ⟨fun σ2 s2 F2 H2 e R2 q2 => k.nx σ2 s2 F2 H2 e (Rel.rebase Rl.base Rl.bdk R2) q2, fun dd v F2 H2 g2 dk2 r2 q2 => k.rt dd v F2 H2 (Rl.base.trans g2) dk2 r2 q2,
        fun σ2 s2 F2 H2 e R2 q2 => k.bk σ2 s2 F2 H2 e (Rel.rebase Rl.base Rl.bdk R2) q2, fun σ2 s2 F2 H2 e R2 q2 => k.ct σ2 s2 F2 H2 e (Rel.rebase Rl.base Rl.bdk R2) q2⟩⟩⟩
end
/-! a def that calls its one parameter, at any later time -/
theorem ed_act2 {Z : Cx} {W : WT} {F H F1 H1 : Hp} {f c' : Addr} {q a : Str} {tl : XK → Hp → VK → Prop} {act : Act} {E : XK} {R : Er → Prop} {p1 p2 : Pos} (hc : H c' = some (LamX.CodeO c' q)) (dk0 : DeckIn W F H) (g0 : Grow W F H F1 H1) (ok : ActOk W Z.kn F H tl act) (hE : FinE W Z.kn F1 H1 R E)
    (h : PE Z (.Call (.Name a p1) [] [] p2) (fun σZ HZ Q => σZ[0]? = some (some (.ref f)) ∧ HZ c' = some (LamX.CodeO c' q) ∧ tl E HZ Q)) : ED ⟨W, F1, H1⟩ Z (.Call (.Name a p1) [] [] p2) (gAct f act R) :=
  ⟨pe_imp h fun s H2 Q ⟨σ, F2, Qd, Rl, ⟨e0, q⟩, k⟩ => by
    obtain ⟨v, hv, rp⟩ := Rl.dat e0
    cases rp
    have g2 := g0.trans Rl.base
    exact ⟨hv, g2.hh c' _ hc (ext_notW dk0 hc) (by intro _ z; cases z), ok F2 H2 R Qd E Q g2 Rl.deck q k (hE.more Rl.base)⟩⟩
section
variable {P : Program} {w : World} {K : PySem.W.Frag} {mg : Str → Option Value} {base : Heap} {T : List (Addr × Str)} {x a : Str} {st : Stmt} {f : Addr} {fd : FuncData} {N : List Str} {k : Nat} {sp : ASp} {g : WD → Addr → Act → GS}
theorem okL2 (hm : mg x = some (.ref f)) (F : Fun K x x st f fd) (S : FnScope N [a] (defScope st))
    (body : ∀ (cdv : Value) (A : Around) (outer : List Env) (s : Shared) (H : Hp) (W : WD) (F : Hp) (f0 : Addr) (act : Act), Room k (A.deeper (envOfC x (defScope st) s.heap.objs.size f cdv)) →
      (∀ (F1 H1 : Hp), Grow ⟨W, T⟩ F H F1 H1 → DeckIn ⟨W, T⟩ F1 H1 → ∀ (Wx : WX) (pn : List (Addr × Obj)) (xe : Value → Shared → Prop) (R : Er → Prop) (p1 p2 : Pos), Takes ((cxL P w K mg base N x st f cdv A outer s H).tr pn xe) Wx → FinE ⟨W, T⟩ ⟨K, mg⟩ F1 H1 R (fun c o H => ∀ s : L2.St, s.length = N.length → Wx c o s H) →
        ED ⟨⟨W, T⟩, F1, H1⟩ ((cxL P w K mg base N x st f cdv A outer s H).tr pn xe) (.Call (.Name a p1) [] [] p2) (gAct f0 act R)) →
      SDs ⟨⟨W, T⟩, F, H⟩ (cxL P w K mg base N x st f cdv A outer s H).nox (defBody st) (g W f0 act))
    (law : ∀ W act Q f0, sp W act Q → g W f0 act (endsD Q) (startD N.length [.opq (.ref f0)])) : OkL P w K mg base T x st k N a sp := by
  obtain ⟨oc, od, kV, doc, pm, an, cdv, ct, osl, rfl, lk, hcd⟩ := F.ex
  refine ⟨⟨f, oc, kV, doc, pm, cdv, ct, an, od, osl, hm, F, lk, hcd, fun A outer q f0 c' s H Q tl hr hact hc tt => ?_⟩, S⟩
  obtain ⟨W, F0, act, Qd, e, dk, hsp, ok, fin⟩ := tt
  have b := body cdv A outer s H W F0 f0 act hr fun F1 H1 g1 d1 Wx pn xe R p1 p2 tk hE =>
    ed_act2 (Z := (cxL P w K mg base N x st f cdv A outer s H).tr pn xe) hc dk g1 ok hE (hact (fun c o σ H => σ.length = N.length → Wx c o σ H) pn xe (fun c o H => ∀ s : L2.St, s.length = N.length → Wx c o s H) p1 p2
      (fun u s' ⟨a, B, sI, pins, σ, H, cls, d, e, I, nb, up, sky, na, os, ag, w⟩ => tk u s' ⟨a, B, sI, pins, σ, H, cls, d, e, I, nb, up, sky, na, os, ag, w I.len⟩) fun cls d σ' H' h hl => h σ' hl)
  exact ⟨_, b.run, startD N.length [.opq (.ref f0)], F0, endsD Qd, rel_start e dk (.cons (.opq _) .nil), law W act Qd f0 hsp,
    ⟨fun σ s F' H' _ R' qn => fin .non qn F' H' .non R'.base R'.deck .non, fun d v F' H' g' dk' r' qd => fin d qd F' H' v g' dk' r', fun _ _ _ _ _ _ z => z.elim, fun _ _ _ _ _ _ z => z.elim⟩⟩
end
end ND

/-! ND77: min and max of a list; a list of anything beside [] -/
namespace ND
open PySem PySem.Spec L2
open PyProof.Rows (envOfC)
section
variable {B : Bs} {X : Cx}
def minLD : List D → (D → Prop) → Prop
  | [.lst xs], Q => ∃ ns, intsOf xs = some ns ∧ 0 < ns.length ∧ ∀ m ∈ ns, (∀ y ∈ ns, m ≤ y) → Q (.int m)
  | _, _ => False
def maxLD : List D → (D → Prop) → Prop
  | [.lst xs], Q => ∃ ns, intsOf xs = some ns ∧ 0 < ns.length ∧ ∀ m ∈ ns, (∀ y ∈ ns, y ≤ m) → Q (.int m)
  | _, _ => False
theorem c_minL (hc : X.calm = true) : CallR X (.builtin "min") (LCa B X.kn minLD) := callR_by fun vs H Q ⟨F, ds, Qd, e, dk, r, q, k⟩ => by
  unfold minLD at q
  split at q
  · obtain ⟨v, rfl, r1⟩ := rb1 r
    obtain ⟨ns, h1, h0, h2⟩ := q
    obtain ⟨a, us, rfl, st, rs⟩ := r1.lst e
    rw [intsOf_map h1] at rs
    rw [reps_of_ints rs] at st
    exact ⟨_, cr_min hc, a, ns, rfl, SqL.of st, h0, fun m hm hy => k.here e dk (h2 m hm hy) (.int _)⟩
  · exact q.elim
theorem c_maxL (hc : X.calm = true) : CallR X (.builtin "max") (LCa B X.kn maxLD) := callR_by fun vs H Q ⟨F, ds, Qd, e, dk, r, q, k⟩ => by
  unfold maxLD at q
  split at q
  · obtain ⟨v, rfl, r1⟩ := rb1 r
    obtain ⟨ns, h1, h0, h2⟩ := q
    obtain ⟨a, us, rfl, st, rs⟩ := r1.lst e
    rw [intsOf_map h1] at rs
    rw [reps_of_ints rs] at st
    exact ⟨_, cr_max hc, a, ns, rfl, SqL.of st, h0, fun m hm hy => k.here e dk (h2 m hm hy) (.int _)⟩
  · exact q.elim
/-- xs != [] -/
def neE : D → D → (D → Prop) → Prop
  | .lst xs, .lst [], Q => Q (.bl (!xs.isEmpty))
  | _, _, _ => False
theorem o_neE (hu : X.A.units + 64 < cLine) : OpR X (compareOp .NotEq) (LO2 B X.kn neE) := fun pins s σ H x y v u Q I rx ry ⟨F, a, b, Qd, e, dk, r1, r2, q, k⟩ => by
  unfold neE at q
  split at q
  · rename_i xs
    obtain ⟨p1, us1, rfl, h1, l1⟩ := r1.lst e
    obtain ⟨p2, us2, rfl, h2, l2⟩ := r2.lst e
    cases rx
    cases ry
    obtain ⟨i1, v1, s1, _⟩ := I.list (SqL.of h1)
    obtain ⟨i2, v2, s2, _⟩ := I.list (SqL.of h2)
    have n1 : i1.toArray.size = xs.length := by
      rw [List.size_toArray, ← v1.length, l1.length]
    have n2 : i2.toArray.size = 0 := by
      rw [List.size_toArray, ← v2.length, l2.length]
      rfl
    cases xs with
    | nil =>
      have := SeqAt.RcNeAt.lists (e := fun _ => true) s1.isList s2.isList (by rw [n1, n2]; rfl) (by omega : X.A.units < cLine) (fun j h1 h2 => absurd h2 (by rw [n2]; omega))
      have z : (!(List.range i1.toArray.size).all fun _ => true) = false := by rw [n1]; rfl
      rw [z] at this
      exact this X.prog X.w _ _ ⟨.bl false, H, I, rfl, k.here e dk q (.bl _)⟩
    | cons z zs =>
      have := SeqAt.RcNeAt.lists_lengths s1.isList s2.isList (by rw [n1, n2]; simp) (by omega : X.A.units < cLine)
      exact this X.prog X.w _ _ ⟨.bl true, H, I, rfl, k.here e dk q (.bl _)⟩
  · exact q.elim
end
end ND

/-! ND78: plain defs with defaults -/
namespace ND
open PySem PySem.Spec L2
open PyProof.Rows (envOfC)
structure OkV (P : Program) (w : World) (K : PySem.W.Frag) (mg : Str → Option Value) (base : Heap) (T : List (Addr × Str)) (x : Str) (st : Stmt) (k : Nat) (ps : List Str) (dfl : List D) (sp : DSp) : Prop where
  ex : ∃ f fd dvs, mg x = some (.ref f) ∧ FunD K x x (defArgs st) (defBody st) (defScope st) dvs [] f fd ∧ dvs ≠ [] ∧ (∀ F, Reps ⟨K, mg⟩ F dvs dfl) ∧ FnOk P w K mg base (L2.CX P w) k f fd ps (liftSp ⟨K, mg⟩ T sp)
abbrev BindsV (x : Str) (st : Stmt) (ps : List Str) (n d j : Nat) : Prop := ∀ (T : Addr) (kV doc pm : Value) (an : Option Addr) (cdv ct : Value) (us its : List Value), us.length = n → its.length = d →
  ∃ k, bindArgs (PySem.W.fnOf x x (defArgs st) (defBody st) (defScope st) (.ref T) kV doc pm an cdv ct) ⟨us, []⟩ = seqItems? (.ref T) >>= k ∧ k (some its.toArray) = pure (ps.zip (us ++ its.drop j))
@[simp] def gCallV (sp : DSp) (more : List D) (W : WD) (R : Er → Prop) (fs : GA) (σ : List SV) (Q : D → Prop) : Prop := fs σ fun ds => sp W (ds ++ more) Q R
theorem funv_mk {K : PySem.W.Frag} {x : Str} {st : Stmt} {f : Addr} {oc : Value} {od : Option Addr} {D : Addr} {kV doc pm : Value} {an : Option Addr} {cdv ct : Value} {osl : Array (Option Value)} {o : Obj} {its : List Value} {m : Nat} {dvs : List V}
    (l : K.lookup f = some ⟨oc, od, .func (PySem.W.fnOf x x (defArgs st) (defBody st) (defScope st) (.ref D) kV doc pm an cdv ct), osl⟩) (hc : PySem.W.codeIn K cdv x = true) (kp : PySem.W.keepIn K (.ref f) = true)
    (hd : dvs ≠ []) (lD : K.lookup D = some o) (oD : o.data = .seq its.toArray m) (r : Vals dvs its) :
    FunD K x x (defArgs st) (defBody st) (defScope st) dvs [] f (PySem.W.fnOf x x (defArgs st) (defBody st) (defScope st) (.ref D) kV doc pm an cdv ct) :=
  ⟨⟨oc, od, .ref D, kV, doc, pm, an, cdv, ct, osl, rfl, l, hc, .inr ⟨hd, D, o, its, m, rfl, lD, oD, r⟩, .inl rfl⟩, kp⟩
section
variable {P : Program} {w : World} {K : PySem.W.Frag} {mg : Str → Option Value} {base : Heap} {x : Str} {st : Stmt} {f : Addr} {fd : FuncData} {N ps : List Str} {k : Nat} {sp : DSp} {g : WD → (Er → Prop) → GS} {T : List (Addr × Str)} {dvs : List V}
theorem okVd (F : FunD K x x (defArgs st) (defBody st) (defScope st) dvs [] f fd) (S : FnScope N ps (defScope st)) (hlen : ∀ W ds Q R, sp W ds Q R → ds.length = ps.length)
    (body : ∀ (cdv : Value) (A : Around) (outer : List Env) (s : Shared) (H : Hp) (E : XK) (W : WD) (F : Hp) (R : Er → Prop), Room k (A.deeper (envOfC x (defScope st) s.heap.objs.size f cdv)) → FinE ⟨W, T⟩ ⟨K, mg⟩ F H R E →
      PassesOwn (model P w) (cxD P w K mg base N x st f cdv A outer s H E).A (cxD P w K mg base N x st f cdv A outer s H E).env (cxD P w K mg base N x st f cdv A outer s H E).xe →
      Passes (L2.CX P w) (cxD P w K mg base N x st f cdv A outer s H E) E → SDs ⟨⟨W, T⟩, F, H⟩ (cxD P w K mg base N x st f cdv A outer s H E) (defBody st) (g W R))
    (law : ∀ W ds Q R, sp W ds Q R → g W R (endsD Q) (startD N.length ds)) : FnOk P w K mg base (L2.CX P w) (k + 1) f fd ps (liftSp ⟨K, mg⟩ T sp) := by
  refine F.ok S (fun vs H Q E ⟨W, F, ds, Qd, Rd, h1, h2, h3, h4, _⟩ => h3.length.trans (hlen _ _ _ _ h4)) fun cdv A outer s H vs Q E hr ⟨W, F, ds, Qd, Rd, h1, h2, h3, h4, h5, h6⟩ => ?_
  exact body_run (body cdv A outer s H E W F Rd hr h6 (passes_of rfl) (passes_call (takes_of rfl rfl rfl rfl) fun _ _ _ _ z => z)) h1 h2 h3 (law W ds Qd Rd h4) h5
end
section
variable {B : Bs} {X : Cx} {k n j : Nat} {ps : List Str} {dfl : List D} {sp : DSp} {R : Er → Prop} {E : XK} {x : Str} {st : Stmt} {p pos : Pos} {e : Expr} {es : List Expr} {fs : GA}
theorem ed_v (O : OkV X.prog X.w X.K X.mg X.base B.W.T x st k ps dfl sp) (hn : n + (dfl.length - j) = ps.length) (b : BindsV x st ps n dfl.length j) (hr : Room k X.A) (hx : Passes (L2.CX X.prog X.w) X E) (hE : FinE B.W X.kn B.F B.H R E) (ha : AD B X (e :: es) fs) (hg : Gl X x := by rfl) (hdb : (x == ("__debug__" : Str)) = false := by decide)
    (he : starEach (e :: es) X.env = (false, eval e X.env) :: starEach es X.env := by rfl) (hpl : (backTo pos (starEach es X.env)).any (·.1) = false := by rfl) {more : List D} (hmo : dfl.drop j = more := by rfl) : ED B X (.Call (.Name x p) (e :: es) [] pos) (gCallV sp more B.W.p R fs) := by
  subst hmo
  obtain ⟨f, fd, dvs, hm, F, hd, hD, G⟩ := O.ex
  have el : dvs.length = dfl.length := (hD B.F).length
  obtain ⟨us, r, hb⟩ := L2.FunD.binds1 (ps := ps) F n j hd (by rw [el]; exact hn) fun T kV doc pm an cdv ct vs its h1 h2 => b T kV doc pm an cdv ct vs its h1 (h2.trans el)
  exact ⟨pe_imp (pe_call G hr hg hm F.kp hb r hx ha.run hdb he hpl) fun s H Q ⟨σ, F, Qd, Rl, q, kf⟩ =>
    ⟨σ, F, _, Rl, q, fun ds qds F1 H1 vs g1 d1 r1 => ⟨B.W.p, F1, ds ++ dfl.drop j, Qd, R, g1.fh, d1, r1.append ((hD F1).drop j), qds, fun d qd F2 H2 v g2 d2 r2 => kf d qd F2 H2 v (g1.trans g2) d2 r2, hE.more (Rl.base.trans g1)⟩⟩⟩
end
end ND
namespace K92
open PySem PySem.Spec L2 ND
open PyProof.Rows (envOfC)
def top (i : Nat) : Stmt := PySem.Challenge.pw_nevertwice_k92_overlaps_of_any_two_tiles.main.body.getD i (.Pass ⟨0, 0, 0, 0⟩)
theorem sc_is_integer : FnScope ["thing"] ["thing"] (defScope (top 7)) := ⟨rfl, rfl, rfl, by decide +kernel, rfl, by decide +kernel, by decide +kernel⟩
theorem bp_is_integer : BindsP "is_integer" (top 7) ["thing"] := fun _ _ _ _ _ _ us hl => match us, hl with | [_], _ => rfl
theorem sc_is_number : FnScope ["thing"] ["thing"] (defScope (top 8)) := ⟨rfl, rfl, rfl, by decide +kernel, rfl, by decide +kernel, by decide +kernel⟩
theorem bp_is_number : BindsP "is_number" (top 8) ["thing"] := fun _ _ _ _ _ _ us hl => match us, hl with | [_], _ => rfl
theorem sc_normal : FnScope ["a", "b", "d", "divisor"] ["a", "b", "d"] (defScope (top 9)) := ⟨rfl, rfl, rfl, by decide +kernel, rfl, by decide +kernel, by decide +kernel⟩
theorem bp_normal : BindsP "normal" (top 9) ["a", "b", "d"] := fun _ _ _ _ _ _ us hl => match us, hl with | [_, _, _], _ => rfl
theorem sc_pair_sign : FnScope ["a", "b", "x", "is_x_greater"] ["a", "b"] (defScope (top 10)) := ⟨rfl, rfl, rfl, by decide +kernel, rfl, by decide +kernel, by decide +kernel⟩
theorem bp_pair_sign : BindsP "pair_sign" (top 10) ["a", "b"] := fun _ _ _ _ _ _ us hl => match us, hl with | [_, _], _ => rfl
theorem sc_sign_of : FnScope ["one"] ["one"] (defScope (top 11)) := ⟨rfl, rfl, rfl, by decide +kernel, rfl, by decide +kernel, by decide +kernel⟩
theorem bp_sign_of : BindsP "sign_of" (top 11) ["one"] := fun _ _ _ _ _ _ us hl => match us, hl with | [_], _ => rfl
theorem sc_compared : FnScope ["one", "other"] ["one", "other"] (defScope (top 12)) := ⟨rfl, rfl, rfl, by decide +kernel, rfl, by decide +kernel, by decide +kernel⟩
theorem bp_compared : BindsP "compared" (top 12) ["one", "other"] := fun _ _ _ _ _ _ us hl => match us, hl with | [_, _], _ => rfl
theorem sc_negative : FnScope ["one"] ["one"] (defScope (top 13)) := ⟨rfl, rfl, rfl, by decide +kernel, rfl, by decide +kernel, by decide +kernel⟩
theorem bp_negative : BindsP "negative" (top 13) ["one"] := fun _ _ _ _ _ _ us hl => match us, hl with | [_], _ => rfl
theorem sc_added : FnScope ["one", "other", "d"] ["one", "other"] (defScope (top 14)) := ⟨rfl, rfl, rfl, by decide +kernel, rfl, by decide +kernel, by decide +kernel⟩
theorem bp_added : BindsP "added" (top 14) ["one", "other"] := fun _ _ _ _ _ _ us hl => match us, hl with | [_, _], _ => rfl
theorem sc_taken : FnScope ["one", "other"] ["one", "other"] (defScope (top 15)) := ⟨rfl, rfl, rfl, by decide +kernel, rfl, by decide +kernel, by decide +kernel⟩
theorem bp_taken : BindsP "taken" (top 15) ["one", "other"] := fun _ _ _ _ _ _ us hl => match us, hl with | [_, _], _ => rfl
theorem sc_greatest : FnScope ["numbers", "found", "one"] ["numbers"] (defScope (top 16)) := ⟨rfl, rfl, rfl, by decide +kernel, rfl, by decide +kernel, by decide +kernel⟩
theorem bp_greatest : BindsP "greatest" (top 16) ["numbers"] := fun _ _ _ _ _ _ us hl => match us, hl with | [_], _ => rfl
theorem sc_least : FnScope ["numbers", "found", "one"] ["numbers"] (defScope (top 17)) := ⟨rfl, rfl, rfl, by decide +kernel, rfl, by decide +kernel, by decide +kernel⟩
theorem bp_least : BindsP "least" (top 17) ["numbers"] := fun _ _ _ _ _ _ us hl => match us, hl with | [_], _ => rfl
theorem sc_is_direction : FnScope ["thing"] ["thing"] (defScope (top 19)) := ⟨rfl, rfl, rfl, by decide +kernel, rfl, by decide +kernel, by decide +kernel⟩
theorem bp_is_direction : BindsP "is_direction" (top 19) ["thing"] := fun _ _ _ _ _ _ us hl => match us, hl with | [_], _ => rfl
theorem sc_is_five : FnScope ["thing", "part"] ["thing"] (defScope (top 20)) := ⟨rfl, rfl, rfl, by decide +kernel, rfl, by decide +kernel, by decide +kernel⟩
theorem bp_is_five : BindsP "is_five" (top 20) ["thing"] := fun _ _ _ _ _ _ us hl => match us, hl with | [_], _ => rfl
theorem sc_is_corner_five : FnScope ["thing"] ["thing"] (defScope (top 21)) := ⟨rfl, rfl, rfl, by decide +kernel, rfl, by decide +kernel, by decide +kernel⟩
theorem bp_is_corner_five : BindsP "is_corner_five" (top 21) ["thing"] := fun _ _ _ _ _ _ us hl => match us, hl with | [_], _ => rfl
theorem sc_raised : FnScope ["row", "direction", "found"] ["row", "direction"] (defScope (top 22)) := ⟨rfl, rfl, rfl, by decide +kernel, rfl, by decide +kernel, by decide +kernel⟩
theorem bp_raised : BindsP "raised" (top 22) ["row", "direction"] := fun _ _ _ _ _ _ us hl => match us, hl with | [_, _], _ => rfl
theorem sc_are_near : FnScope ["r", "s"] ["r", "s"] (defScope (top 23)) := ⟨rfl, rfl, rfl, by decide +kernel, rfl, by decide +kernel, by decide +kernel⟩
theorem bp_are_near : BindsP "are_near" (top 23) ["r", "s"] := fun _ _ _ _ _ _ us hl => match us, hl with | [_, _], _ => rfl
theorem sc_need_numbers : FnScope ["things", "thing"] ["things"] (defScope (top 25)) := ⟨rfl, rfl, rfl, by decide +kernel, rfl, by decide +kernel, by decide +kernel⟩
theorem bp_need_numbers : BindsP "need_numbers" (top 25) ["things"] := fun _ _ _ _ _ _ us hl => match us, hl with | [_], _ => rfl
theorem sc_minus : FnScope ["one", "other"] ["one", "other"] (defScope (top 26)) := ⟨rfl, rfl, rfl, by decide +kernel, rfl, by decide +kernel, by decide +kernel⟩
theorem bp_minus : BindsP "minus" (top 26) ["one", "other"] := fun _ _ _ _ _ _ us hl => match us, hl with | [_, _], _ => rfl
theorem sc_sign : FnScope ["number"] ["number"] (defScope (top 27)) := ⟨rfl, rfl, rfl, by decide +kernel, rfl, by decide +kernel, by decide +kernel⟩
theorem bp_sign : BindsP "sign" (top 27) ["number"] := fun _ _ _ _ _ _ us hl => match us, hl with | [_], _ => rfl
theorem sc_is_tile_row : FnScope ["thing"] ["thing"] (defScope (top 29)) := ⟨rfl, rfl, rfl, by decide +kernel, rfl, by decide +kernel, by decide +kernel⟩
theorem bp_is_tile_row : BindsP "is_tile_row" (top 29) ["thing"] := fun _ _ _ _ _ _ us hl => match us, hl with | [_], _ => rfl
theorem sc_need_tile : FnScope ["thing"] ["thing"] (defScope (top 30)) := ⟨rfl, rfl, rfl, by decide +kernel, rfl, by decide +kernel, by decide +kernel⟩
theorem bp_need_tile : BindsP "need_tile" (top 30) ["thing"] := fun _ _ _ _ _ _ us hl => match us, hl with | [_], _ => rfl
theorem sc_corners_of : FnScope ["tile", "foot", "r", "s", "one"] ["tile"] (defScope (top 31)) := ⟨rfl, rfl, rfl, by decide +kernel, rfl, by decide +kernel, by decide +kernel⟩
theorem bp_corners_of : BindsP "corners_of" (top 31) ["tile"] := fun _ _ _ _ _ _ us hl => match us, hl with | [_], _ => rfl
theorem sc_edges_of : FnScope ["tile", "foot", "r", "s"] ["tile"] (defScope (top 32)) := ⟨rfl, rfl, rfl, by decide +kernel, rfl, by decide +kernel, by decide +kernel⟩
theorem bp_edges_of : BindsP "edges_of" (top 32) ["tile"] := fun _ _ _ _ _ _ us hl => match us, hl with | [_], _ => rfl
theorem sc_is_thick : FnScope ["tile"] ["tile"] (defScope (top 33)) := ⟨rfl, rfl, rfl, by decide +kernel, rfl, by decide +kernel, by decide +kernel⟩
theorem bp_is_thick : BindsP "is_thick" (top 33) ["tile"] := fun _ _ _ _ _ _ us hl => match us, hl with | [_], _ => rfl
theorem sc_is_low : FnScope ["tile"] ["tile"] (defScope (top 34)) := ⟨rfl, rfl, rfl, by decide +kernel, rfl, by decide +kernel, by decide +kernel⟩
theorem bp_is_low : BindsP "is_low" (top 34) ["tile"] := fun _ _ _ _ _ _ us hl => match us, hl with | [_], _ => rfl
theorem sc_marks_of : FnScope ["tile", "inner"] ["tile"] (defScope (top 35)) := ⟨rfl, rfl, rfl, by decide +kernel, rfl, by decide +kernel, by decide +kernel⟩
theorem bp_marks_of : BindsP "marks_of" (top 35) ["tile"] := fun _ _ _ _ _ _ us hl => match us, hl with | [_], _ => rfl
theorem sc_lies_left : FnScope ["tile", "number", "own", "other", "is_onward"] ["tile", "number"] (defScope (top 36)) := ⟨rfl, rfl, rfl, by decide +kernel, rfl, by decide +kernel, by decide +kernel⟩
theorem bp_lies_left : BindsP "lies_left" (top 36) ["tile", "number"] := fun _ _ _ _ _ _ us hl => match us, hl with | [_, _], _ => rfl
theorem sc_does_fit : FnScope ["one", "other", "first", "second", "at", "place"] ["one", "other"] (defScope (top 37)) := ⟨rfl, rfl, rfl, by decide +kernel, rfl, by decide +kernel, by decide +kernel⟩
theorem bp_does_fit : BindsP "does_fit" (top 37) ["one", "other"] := fun _ _ _ _ _ _ us hl => match us, hl with | [_, _], _ => rfl
theorem sc_beside : FnScope ["row", "direction", "near", "far"] ["row", "direction"] (defScope (top 39)) := ⟨rfl, rfl, rfl, by decide +kernel, rfl, by decide +kernel, by decide +kernel⟩
theorem bp_beside : BindsP "beside" (top 39) ["row", "direction"] := fun _ _ _ _ _ _ us hl => match us, hl with | [_, _], _ => rfl
theorem sc_is_parted : FnScope ["one", "other", "direction", "near", "far", "corner"] ["one", "other", "direction"] (defScope (top 40)) := ⟨rfl, rfl, rfl, by decide +kernel, rfl, by decide +kernel, by decide +kernel⟩
theorem bp_is_parted : BindsP "is_parted" (top 40) ["one", "other", "direction"] := fun _ _ _ _ _ _ us hl => match us, hl with | [_, _, _], _ => rfl
theorem sc_are_overlapping : FnScope ["one", "other", "direction"] ["one", "other"] (defScope (top 41)) := ⟨rfl, rfl, rfl, by decide +kernel, rfl, by decide +kernel, by decide +kernel⟩
theorem bp_are_overlapping : BindsP "are_overlapping" (top 41) ["one", "other"] := fun _ _ _ _ _ _ us hl => match us, hl with | [_, _], _ => rfl
theorem sc_do_overlap : FnScope ["one", "other", "thing"] ["one", "other"] (defScope (top 43)) := ⟨rfl, rfl, rfl, by decide +kernel, rfl, by decide +kernel, by decide +kernel⟩
theorem bp_do_overlap : BindsP "do_overlap" (top 43) ["one", "other"] := fun _ _ _ _ _ _ us hl => match us, hl with | [_, _], _ => rfl
theorem sc_point_of : FnScope ["row", "found", "j", "beside", "far"] ["row"] (defScope (top 45)) := ⟨rfl, rfl, rfl, by decide +kernel, rfl, by decide +kernel, by decide +kernel⟩
theorem bp_point_of : BindsP "point_of" (top 45) ["row"] := fun _ _ _ _ _ _ us hl => match us, hl with | [_], _ => rfl
theorem sc__law_deck : FnScope ["_law_script", "_law_mixed", "_law_cell"] ["_law_script"] (defScope (top 47)) := ⟨rfl, rfl, rfl, by decide +kernel, rfl, by decide +kernel, by decide +kernel⟩
theorem bp__law_deck : BindsP "_law_deck" (top 47) ["_law_script"] := fun _ _ _ _ _ _ us hl => match us, hl with | [_], _ => rfl
theorem sc__law_draw : FnScope ["_law_deck_here", "_law_many", "_law_number", "_law_cell"] ["_law_deck_here", "_law_many"] (defScope (top 48)) := ⟨rfl, rfl, rfl, by decide +kernel, rfl, by decide +kernel, by decide +kernel⟩
theorem bp__law_draw : BindsP "_law_draw" (top 48) ["_law_deck_here", "_law_many"] := fun _ _ _ _ _ _ us hl => match us, hl with | [_, _], _ => rfl
theorem sc__law_pick : FnScope ["_law_deck_here", "_law_some"] ["_law_deck_here", "_law_some"] (defScope (top 49)) := ⟨rfl, rfl, rfl, by decide +kernel, rfl, by decide +kernel, by decide +kernel⟩
theorem bp__law_pick : BindsP "_law_pick" (top 49) ["_law_deck_here", "_law_some"] := fun _ _ _ _ _ _ us hl => match us, hl with | [_, _], _ => rfl
theorem sc__law_sign : FnScope ["_law_a", "_law_b", "_law_one", "_law_most"] ["_law_a", "_law_b"] (defScope (top 50)) := ⟨rfl, rfl, rfl, by decide +kernel, rfl, by decide +kernel, by decide +kernel⟩
theorem bp__law_sign : BindsP "_law_sign" (top 50) ["_law_a", "_law_b"] := fun _ _ _ _ _ _ us hl => match us, hl with | [_, _], _ => rfl
theorem sc__law_is_integer : FnScope ["_law_thing"] ["_law_thing"] (defScope (top 51)) := ⟨rfl, rfl, rfl, by decide +kernel, rfl, by decide +kernel, by decide +kernel⟩
theorem bp__law_is_integer : BindsP "_law_is_integer" (top 51) ["_law_thing"] := fun _ _ _ _ _ _ us hl => match us, hl with | [_], _ => rfl
theorem sc__law_up : FnScope ["_law_k", "_law_j", "_law_much"] ["_law_k", "_law_j", "_law_much"] (defScope (top 52)) := ⟨rfl, rfl, rfl, by decide +kernel, rfl, by decide +kernel, by decide +kernel⟩
theorem bv__law_up_0 : BindsV "_law_up" (top 52) ["_law_k", "_law_j", "_law_much"] 2 1 0 := fun _ _ _ _ _ _ _ us its h1 h2 => match us, its, h1, h2 with | [_, _], [_], _, _ => ⟨_, rfl, rfl⟩
theorem bv__law_up_1 : BindsV "_law_up" (top 52) ["_law_k", "_law_j", "_law_much"] 3 1 1 := fun _ _ _ _ _ _ _ us its h1 h2 => match us, its, h1, h2 with | [_, _, _], [_], _, _ => ⟨_, rfl, rfl⟩
theorem sc__law_corners : FnScope ["_law_tile", "_law_k", "_law_r", "_law_s"] ["_law_tile"] (defScope (top 53)) := ⟨rfl, rfl, rfl, by decide +kernel, rfl, by decide +kernel, by decide +kernel⟩
theorem bp__law_corners : BindsP "_law_corners" (top 53) ["_law_tile"] := fun _ _ _ _ _ _ us hl => match us, hl with | [_], _ => rfl
theorem sc__law_marked : FnScope ["_law_tile", "_law_k", "_law_r", "_law_s", "_law_word", "_law_found", "_law_x", "_law_j", "_law_away", "_law_is_near"] ["_law_tile"] (defScope (top 54)) := ⟨rfl, rfl, rfl, by decide +kernel, rfl, by decide +kernel, by decide +kernel⟩
theorem bp__law_marked : BindsP "_law_marked" (top 54) ["_law_tile"] := fun _ _ _ _ _ _ us hl => match us, hl with | [_], _ => rfl
theorem sc__law_meeting : FnScope ["_law_one", "_law_other", "_law_edge", "_law_mark", "_law_on_left", "_law_edge2", "_law_mark2", "_law_on_left2"] ["_law_one", "_law_other"] (defScope (top 55)) := ⟨rfl, rfl, rfl, by decide +kernel, rfl, by decide +kernel, by decide +kernel⟩
theorem bp__law_meeting : BindsP "_law_meeting" (top 55) ["_law_one", "_law_other"] := fun _ _ _ _ _ _ us hl => match us, hl with | [_, _], _ => rfl
theorem sc__law_choices : FnScope ["_law_edge", "_law_on_left", "_law_found", "_law_gap", "_law_s", "_law_foot"] ["_law_edge", "_law_on_left"] (defScope (top 56)) := ⟨rfl, rfl, rfl, by decide +kernel, rfl, by decide +kernel, by decide +kernel⟩
theorem bp__law_choices : BindsP "_law_choices" (top 56) ["_law_edge", "_law_on_left"] := fun _ _ _ _ _ _ us hl => match us, hl with | [_, _], _ => rfl
theorem sc__law_do_overlap : FnScope ["_law_one", "_law_other", "_law_dirs", "_law_away", "_law_at", "_law_j", "_law_d", "_law_a", "_law_b", "_law_x", "_law_y"] ["_law_one", "_law_other"] (defScope (top 57)) := ⟨rfl, rfl, rfl, by decide +kernel, rfl, by decide +kernel, by decide +kernel⟩
theorem bp__law_do_overlap : BindsP "_law_do_overlap" (top 57) ["_law_one", "_law_other"] := fun _ _ _ _ _ _ us hl => match us, hl with | [_, _], _ => rfl
theorem sc__law_is_tile : FnScope ["_law_thing", "_law_it"] ["_law_thing"] (defScope (top 58)) := ⟨rfl, rfl, rfl, by decide +kernel, rfl, by decide +kernel, by decide +kernel⟩
theorem bp__law_is_tile : BindsP "_law_is_tile" (top 58) ["_law_thing"] := fun _ _ _ _ _ _ us hl => match us, hl with | [_], _ => rfl
theorem sc__law_odd : FnScope ["_law_deck_here", "_law_some"] ["_law_deck_here"] (defScope (top 59)) := ⟨rfl, rfl, rfl, by decide +kernel, rfl, by decide +kernel, by decide +kernel⟩
theorem bp__law_odd : BindsP "_law_odd" (top 59) ["_law_deck_here"] := fun _ _ _ _ _ _ us hl => match us, hl with | [_], _ => rfl
theorem sc__law_bent_tile : FnScope ["_law_deck_here", "_law_tile", "_law_k", "_law_r", "_law_s", "_law_way", "_law_at"] ["_law_deck_here", "_law_tile"] (defScope (top 60)) := ⟨rfl, rfl, rfl, by decide +kernel, rfl, by decide +kernel, by decide +kernel⟩
theorem bp__law_bent_tile : BindsP "_law_bent_tile" (top 60) ["_law_deck_here", "_law_tile"] := fun _ _ _ _ _ _ us hl => match us, hl with | [_, _], _ => rfl
theorem sc__law_great : FnScope ["_law_deck_here", "_law_found", "_law_turn"] ["_law_deck_here"] (defScope (top 61)) := ⟨rfl, rfl, rfl, by decide +kernel, rfl, by decide +kernel, by decide +kernel⟩
theorem bp__law_great : BindsP "_law_great" (top 61) ["_law_deck_here"] := fun _ _ _ _ _ _ us hl => match us, hl with | [_], _ => rfl
theorem sc__law_any_tile : FnScope ["_law_deck_here", "_law_some", "_law_k", "_law_j", "_law_s"] ["_law_deck_here"] (defScope (top 62)) := ⟨rfl, rfl, rfl, by decide +kernel, rfl, by decide +kernel, by decide +kernel⟩
theorem bp__law_any_tile : BindsP "_law_any_tile" (top 62) ["_law_deck_here"] := fun _ _ _ _ _ _ us hl => match us, hl with | [_], _ => rfl
theorem sc__law_near : FnScope ["_law_deck_here", "_law_tile", "_law_k", "_law_turn", "_law_j", "_law_s"] ["_law_deck_here", "_law_tile"] (defScope (top 63)) := ⟨rfl, rfl, rfl, by decide +kernel, rfl, by decide +kernel, by decide +kernel⟩
theorem bp__law_near : BindsP "_law_near" (top 63) ["_law_deck_here", "_law_tile"] := fun _ _ _ _ _ _ us hl => match us, hl with | [_, _], _ => rfl
theorem sc__law_bad : FnScope ["_law_call", "_law_told", "_law_e"] ["_law_call"] (defScope (top 64)) := ⟨rfl, rfl, rfl, by decide +kernel, rfl, by decide +kernel, by decide +kernel⟩
theorem bp__law_bad : BindsP "_law_bad" (top 64) ["_law_call"] := fun _ _ _ _ _ _ us hl => match us, hl with | [_], _ => rfl
theorem sc__law_is_parted : FnScope ["_law_one", "_law_other", "_law_near_here", "_law_far", "_law_d", "_law_ends", "_law_c", "_law_e", "_law_k"] ["_law_one", "_law_other"] (defScope (top 65)) := ⟨rfl, rfl, rfl, by decide +kernel, rfl, by decide +kernel, by decide +kernel⟩
theorem bp__law_is_parted : BindsP "_law_is_parted" (top 65) ["_law_one", "_law_other"] := fun _ _ _ _ _ _ us hl => match us, hl with | [_, _], _ => rfl
theorem sc__law_is_pair_right : FnScope ["_law_deck_here", "_law_near_here", "_law_far", "_law_due", "_law_told"] ["_law_deck_here", "_law_near_here", "_law_far"] (defScope (top 66)) := ⟨rfl, rfl, rfl, by decide +kernel, rfl, by decide +kernel, by decide +kernel⟩
theorem bp__law_is_pair_right : BindsP "_law_is_pair_right" (top 66) ["_law_deck_here", "_law_near_here", "_law_far"] := fun _ _ _ _ _ _ us hl => match us, hl with | [_, _, _], _ => rfl
theorem sc__law_is_refusal_right : FnScope ["_law_deck_here", "_law_near_here", "_law_far", "_law_one", "_law_other", "_law_some", "_law_was", "_law_told", "_law_due", "_law_it"] ["_law_deck_here", "_law_near_here", "_law_far"] (defScope (top 67)) := ⟨rfl, rfl, rfl, by decide +kernel, rfl, by decide +kernel, by decide +kernel⟩
theorem bp__law_is_refusal_right : BindsP "_law_is_refusal_right" (top 67) ["_law_deck_here", "_law_near_here", "_law_far"] := fun _ _ _ _ _ _ us hl => match us, hl with | [_, _, _], _ => rfl
theorem sc_law : FnScope ["_law_script", "_law_deck_here", "_law_near_here", "_law_turn", "_law_edge", "_law_mark", "_law_on_left", "_law_far"] ["_law_script"] (defScope (top 68)) := ⟨rfl, rfl, rfl, by decide +kernel, rfl, by decide +kernel, by decide +kernel⟩
theorem kb_do_overlap_0 : BindsKw "do_overlap" (top 43) ["one", "other"] ["other", "one"] 0 2 [1, 0] := fun _ _ _ _ _ _ us ws h1 h2 => match us, ws, h1, h2 with | [], [_, _], _, _ => rfl
theorem kb_does_fit_0 : BindsKw "does_fit" (top 37) ["one", "other"] ["other", "one"] 0 2 [1, 0] := fun _ _ _ _ _ _ us ws h1 h2 => match us, ws, h1, h2 with | [], [_, _], _, _ => rfl
structure Bt (mg : Str → Option Value) : Prop where
  b_abs : mg "abs" = none
  b_all : mg "all" = none
  b_any : mg "any" = none
  b_bool : mg "bool" = none
  b_enumerate : mg "enumerate" = none
  b_int : mg "int" = none
  b_isinstance : mg "isinstance" = none
  b_len : mg "len" = none
  b_list : mg "list" = none
  b_max : mg "max" = none
  b_min : mg "min" = none
  b_range : mg "range" = none
  b_repr : mg "repr" = none
  b_sum : mg "sum" = none
  b_tuple : mg "tuple" = none
  b_zip : mg "zip" = none
  f_gcd : mg "gcd" = some (.builtin "math.gcd")
def clsML : List (Str × Str × Bool) := [("BadNumber", "BadTile", false), ("BadRow", "BadTile", false), ("BadTile", "BadTile", true)]
def clsM (a b : Str) : Option Bool := look3 clsML a b
@[simp] theorem clsM_BadNumber_BadTile : clsM "BadNumber" "BadTile" = some false := by decide +kernel
@[simp] theorem clsM_BadRow_BadTile : clsM "BadRow" "BadTile" = some false := by decide +kernel
@[simp] theorem clsM_BadTile_BadTile : clsM "BadTile" "BadTile" = some true := by decide +kernel
def knownE (a : Str) : Bool := a == "BadNumber" || a == "BadRow" || a == "BadTile"
def initS (i : Nat) : Stmt := match top i with
  | .ClassDef _ _ _ b _ _ _ _ _ _ _ => b.getD 0 (.Pass ⟨0, 0, 0, 0⟩)
  | s => s
theorem in_BadNumber {K : PySem.W.Frag} {fI : Addr} {fd : FuncData} (F : Fun K "__init__" "BadNumber.__init__" (initS 3) fI fd) : ErInit K "BadNumber.__init__" "thing" (initS 3) fI := ⟨⟨_, F⟩, ⟨_, _, _, _, rfl⟩, fun _ _ _ _ _ _ _ _ => rfl, fun _ _ => by rfl, fun _ _ _ => rfl, fun _ _ _ => rfl, fun _ _ _ _ _ => by rfl, fun _ _ _ _ _ => by rfl, ⟨rfl, rfl, rfl⟩, by decide +kernel⟩
theorem in_BadRow {K : PySem.W.Frag} {fI : Addr} {fd : FuncData} (F : Fun K "__init__" "BadRow.__init__" (initS 4) fI fd) : ErInit K "BadRow.__init__" "thing" (initS 4) fI := ⟨⟨_, F⟩, ⟨_, _, _, _, rfl⟩, fun _ _ _ _ _ _ _ _ => rfl, fun _ _ => by rfl, fun _ _ _ => rfl, fun _ _ _ => rfl, fun _ _ _ _ _ => by rfl, fun _ _ _ _ _ => by rfl, ⟨rfl, rfl, rfl⟩, by decide +kernel⟩
theorem in_BadTile {K : PySem.W.Frag} {fI : Addr} {fd : FuncData} (F : Fun K "__init__" "BadTile.__init__" (initS 5) fI fd) : ErInit K "BadTile.__init__" "thing" (initS 5) fI := ⟨⟨_, F⟩, ⟨_, _, _, _, rfl⟩, fun _ _ _ _ _ _ _ _ => rfl, fun _ _ => by rfl, fun _ _ _ => rfl, fun _ _ _ => rfl, fun _ _ _ _ _ => by rfl, fun _ _ _ _ _ => by rfl, ⟨rfl, rfl, rfl⟩, by decide +kernel⟩
structure Ct (K : PySem.W.Frag) (mg : Str → Option Value) : Prop where
  er_BadNumber : ∃ C fI, ErC K mg "BadNumber" "thing" C fI ∧ ErInit K "BadNumber.__init__" "thing" (initS 3) fI
  er_BadRow : ∃ C fI, ErC K mg "BadRow" "thing" C fI ∧ ErInit K "BadRow.__init__" "thing" (initS 4) fI
  er_BadTile : ∃ C fI, ErC K mg "BadTile" "thing" C fI ∧ ErInit K "BadTile.__init__" "thing" (initS 5) fI
  g_BadTile : ∃ C, mg "BadTile" = some (.ref C)
  tab : ClsTab ⟨K, mg⟩ clsM
  get_thing : GetTab ⟨K, mg⟩ knownE "thing"
  dig : Dig K
theorem vis__law_bad : Vis (defScope (top 64)) "_law_call" := .inl rfl
abbrev ql__law_is_refusal_right : Str := (envOfC "_law_is_refusal_right" (defScope (top 67)) 0 0 .none).qual ++ "<lambda>"
abbrev sp__law_draw := spDraw
abbrev TyK (x : D) : Prop := (tyD x).isSome = true
def TyK1 (x : D) : Prop := TyK x ∧ ∀ xs, x = .tup xs → ∀ y ∈ xs, TyK y
theorem tyk_rp {n : Nat} {x : D} (h : rp n x = true) : TyK x := rp_ty h
theorem tyk1_rp {x : D} (h : rp 64 x = true) : TyK1 x := ⟨tyk_rp h, fun xs e y m => by
  subst e
  simp only [rp, rps_all, List.all_eq_true] at h
  exact tyk_rp (h y m)⟩
theorem tyk1_tri (a b c : Int) : TyK1 (tri a b c) := ⟨rfl, fun xs e y m => by
  cases e
  simp only [List.mem_cons, List.not_mem_nil, or_false] at m
  rcases m with rfl | rfl | rfl <;> rfl⟩
def sp_is_integer : DSp := fun _ ds Q _ => ∃ x, ds = [x] ∧ TyK x ∧ Q (.bl (isI x))
theorem isi_hs {W : WD} (x : D) (Qd : D → Prop) (h : TyK x) (q : Qd (.bl (isI x))) : sp_is_integer W [x] Qd fun _ => False := ⟨x, rfl, h, q⟩
def sp_normal : DSp := fun _ ds Q _ => ∃ a b d, ds = [.int a, .int b, .int d] ∧ Sz 8900 d ∧ d ≠ 0 ∧ Q (red a b d)
def sp_pair_sign : DSp := fun _ ds Q _ => ∃ a b, ds = [.int a, .int b] ∧ Sz 200000 a ∧ Sz 200000 b ∧ Q (.int (psg a b))
def sp_negative : DSp := fun _ ds Q _ => ∃ a b m, ds = [tri a b m] ∧ Q (tri (-a) (-b) m)
def sp_raised : DSp := fun _ ds Q _ => ∃ f j, ds = [tup5 f, .int j] ∧ 0 ≤ j ∧ j ≤ 4 ∧ Q (tup5 (rz f j 1))
def sp_is_number : DSp := fun _ ds Q _ => ∃ x, ds = [x] ∧ TyK1 x ∧ Q (.bl (isNum x))
def sp_sign_of : DSp := fun _ ds Q _ => ∃ a b m, ds = [tri a b m] ∧ Sz 200000 a ∧ Sz 200000 b ∧ Q (.int (psg a b))
def sp_compared : DSp := fun _ ds Q _ => ∃ N a b m c d n, ds = [tri a b m, tri c d n] ∧ Num N a b m ∧ Num N c d n ∧ N ≤ 50000 ∧ Q (.int (psg (a * n - c * m) (b * n - d * m)))
def sp_added : DSp := fun _ ds Q _ => ∃ n m a b d c e f, ds = [tri a b d, tri c e f] ∧ Num n a b d ∧ Num m c e f ∧ n + m ≤ 400000 ∧ Sz 4400 d ∧ Sz 4400 f ∧ Q (red (a * f + c * d) (b * f + e * d) (d * f))
def sp_is_direction : DSp := fun _ ds Q _ => ∃ x, ds = [x] ∧ TyK x ∧ Q (.bl (isDir x))
def sp_is_five : DSp := fun _ ds Q _ => ∃ x, ds = [x] ∧ TyK1 x ∧ Q (.bl (isFive x))
def sp__law_pick : DSp := fun W ds Q _ => ∃ d l xs, W = some (d, l) ∧ (ds = [dkD d, .lst xs] ∨ ds = [dkD d, .tup xs]) ∧ 0 < xs.length ∧ xs.length < 2 ^ 62 ∧ ∀ x ∈ xs, Q x
def sp_taken : DSp := fun _ ds Q _ => ∃ n m a b d c e f, ds = [tri a b d, tri c e f] ∧ Num n a b d ∧ Num m c e f ∧ n + m ≤ 400000 ∧ Sz 4400 d ∧ Sz 4400 f ∧ Q (red (a * f + -c * d) (b * f + -e * d) (d * f))
def sp_is_corner_five : DSp := fun _ ds Q _ => ∃ x, ds = [x] ∧ TyK1 x ∧ Q (.bl (isCor x))
def sp_need_numbers : DSp := fun _ ds Q _ => ∃ xs, ds = [.tup xs] ∧ (∀ x ∈ xs, ∃ a b m, x = tri a b m ∧ 1 ≤ m) ∧ Q .non
/-! k16: tiles, edges, what fits -/
abbrev eg (f : Int → Int) (j : Int) : D := .tup [tup5 f, .int j]
abbrev tl (f : Int → Int) (r s : Int) : D := .tup [tup5 f, .int r, .int s]
def near (a b : Int) : Bool := decide ((a - b) % 5 = 1 ∨ (a - b) % 5 = 4)
def near2 (a b : Int) : Bool := decide ((a - b) % 5 = 1 ∨ (a - b) % 5 = 2)
/-- edges by number: foot, direction, the other direction -/
def ef (f : Int → Int) (r s : Int) : Nat → Int → Int
  | 0 => f
  | 1 => f
  | 2 => rz f s 1
  | _ => rz f r 1
def ej (r s : Int) : Nat → Int
  | 0 => r
  | 1 => s
  | 2 => r
  | _ => s
def eo (r s : Int) : Nat → Int
  | 0 => s
  | 1 => r
  | 2 => s
  | _ => r
def lleft (r s : Int) (n : Nat) : Bool := near2 (eo r s n) (ej r s n) == decide (n < 2)
def inner (k r s : Int) : Str := if near r s = decide (k = 1) then "up" else "down"
def mkS (k r s : Int) (n : Nat) : Str := if decide (k = 1) = decide (n < 2) then "outer" else inner k r s
def sm5 (f g : Int → Int) : Bool := decide (f 0 = g 0 ∧ f 1 = g 1 ∧ f 2 = g 2 ∧ f 3 = g 3 ∧ f 4 = g 4)
abbrev four : List Nat := [0, 1, 2, 3]
def isTile : D → Bool
  | .tup [c, r, s] => isFive c && (isI r && (isI s && decide ((sumN c = 1 ∨ sumN c = 2) ∧ 0 ≤ nOf r ∧ nOf r < nOf s ∧ nOf s < 5)))
  | _ => false
structure TileD (x : D) (f : Int → Int) (r s : Int) : Prop where
  e : x = tl f r s
  k : sum5 f = 1 ∨ sum5 f = 2
  r0 : 0 ≤ r
  rs : r < s
  s4 : s ≤ 4
def sp_are_near : DSp := fun _ ds Q _ => ∃ a b, ds = [.int a, .int b] ∧ Q (.bl (near a b))
def sp_lies_left : DSp := fun _ ds Q _ => ∃ f r s, ∃ n : Nat, ds = [tl f r s, .int n] ∧ n < 4 ∧ Q (.bl (lleft r s n))
/-- the parts of a tile -/
def fT : D → Int → Int
  | .tup (c :: _) => fOf c
  | _ => fun _ => 0
def rT : D → Int
  | .tup [_, r, _] => nOf r
  | _ => 0
def sT : D → Int
  | .tup [_, _, s] => nOf s
  | _ => 0
/-- how a call ends -/
inductive Ot where
  | ok (d : D) | tile (x : D) | edge (x : D)
def outT : Ot → (D → Prop) → (Er → Prop) → Prop
  | .ok d, Q, _ => Q d
  | .tile x, _, R => R ⟨"BadTile", [("thing", x)]⟩
  | .edge x, _, R => R ⟨"BadEdge", [("thing", x)]⟩
def edgesD (f : Int → Int) (r s : Int) : D := .tup (four.map fun n => eg (ef f r s n) (ej r s n))
def marksD (k r s : Int) : D := .tup (four.map fun n => .str (mkS k r s n))
def cornersD (f : Int → Int) (r s : Int) : D := .tup [tup5 f, tup5 (rz f r 1), tup5 (rz f s 1), tup5 (rz (rz f r 1) s 1)]
def onT (x : D) (d : D) : Ot := if isTile x = true then .ok d else .tile x
def edgO (x : D) : Ot := onT x (edgesD (fT x) (rT x) (sT x))
def cornO (x : D) : Ot := onT x (cornersD (fT x) (rT x) (sT x))
def thickO (x : D) : Ot := onT x (.bl (near (rT x) (sT x)))
def lowO (x : D) : Ot := onT x (.bl (decide (sum5 (fT x) = 1)))
def marksO (x : D) : Ot := onT x (marksD (sum5 (fT x)) (rT x) (sT x))
def same (f : Int → Int) (r s : Int) (g : Int → Int) (r' s' : Int) (n m : Nat) : Bool := sm5 (ef f r s n) (ef g r' s' m) && decide (ej r s n = ej r' s' m)
def meet (f : Int → Int) (r s : Int) (g : Int → Int) (r' s' : Int) (n m : Nat) : Bool := same f r s g r' s' n m && (lleft r s n != lleft r' s' m) && decide (mkS (sum5 f) r s n = mkS (sum5 g) r' s' m)
def fit (f : Int → Int) (r s : Int) (g : Int → Int) (r' s' : Int) : Bool := four.any fun n => four.any fun m => meet f r s g r' s' n m
def fitO (x y : D) : Ot := if isTile x = true then onT y (.bl (fit (fT x) (rT x) (sT x) (fT y) (rT y) (sT y))) else .tile x
def sp1 (o : D → Ot) : DSp := fun _ ds Q R => ∃ x, ds = [x] ∧ rp 64 x = true ∧ outT (o x) Q R
def sp_need_tile : DSp := sp1 fun x => onT x .non
def sp_corners_of : DSp := sp1 cornO
def sp_edges_of : DSp := sp1 edgO
def sp_is_thick : DSp := sp1 thickO
def sp_is_low : DSp := sp1 lowO
def sp_marks_of : DSp := sp1 marksO
def sp_does_fit : DSp := fun _ ds Q R => ∃ x y, ds = [x, y] ∧ rp 64 x = true ∧ rp 64 y = true ∧ outT (fitO x y) Q R/-! k92: overlaps -/
def sp_is_tile_row : DSp := fun _ ds Q _ => ∃ x, ds = [x] ∧ rp 64 x = true ∧ Q (.bl (isTile x))
def sp__law_is_tile : DSp := sp_is_tile_row
def sp__law_is_integer : DSp := fun _ ds Q _ => ∃ x, ds = [x] ∧ TyK x ∧ Q (.bl (isI x))
/-- near and far across a direction -/
def nrA (f : Int → Int) (d : Int) : Int := f ((d + 1) % 5) - f ((d - 1) % 5)
def frA (f : Int → Int) (d : Int) : Int := f ((d + 2) % 5) - f ((d - 2) % 5)
def bsA (f : Int → Int) (d : Int) : Int := 2 * nrA f d - frA f d
def bsB (f : Int → Int) (d : Int) : Int := 2 * frA f d + nrA f d
/-- the way between the middles, doubled, as the law has it -/
def awF (f : Int → Int) (r s : Int) (g : Int → Int) (r' s' : Int) : Int → Int := rz (rz (rz (rz (fun i => 2 * (g i - f i)) r (-1)) s (-1)) r' 1) s' 1
def wdA (d j : Int) : Int := if (if j - d < 0 then -(j - d) else j - d) = 2 ∨ (if j - d < 0 then -(j - d) else j - d) = 3 then 1 else 0
def wdB (d j : Int) : Int := if (if j - d < 0 then -(j - d) else j - d) = 1 ∨ (if j - d < 0 then -(j - d) else j - d) = 4 then 1 else 0
def wA (d r s r' s' : Int) : Int := wdA d r + wdA d s + wdA d r' + wdA d s'
def wB (d r s r' s' : Int) : Int := wdB d r + wdB d s + wdB d r' + wdB d s'
/-- whether they are parted across d -/
def ptD (f : Int → Int) (r s : Int) (g : Int → Int) (r' s' : Int) (d : Int) : Bool :=
  decide (0 ≤ psg (frA (awF f r s g r' s') d - wA d r s r' s') (nrA (awF f r s g r' s') d - wB d r s r' s')) || decide (0 ≤ psg (-frA (awF f r s g r' s') d - wA d r s r' s') (-nrA (awF f r s g r' s') d - wB d r s r' s'))
def ovl (f : Int → Int) (r s : Int) (g : Int → Int) (r' s' : Int) : Bool := !(ptD f r s g r' s' r || (ptD f r s g r' s' s || (ptD f r s g r' s' r' || ptD f r s g r' s' s')))
def ovO (x y : D) : Ot := if isTile x = true then onT y (.bl (ovl (fT x) (rT x) (sT x) (fT y) (rT y) (sT y))) else .tile x
abbrev Pk (x : D) : Prop := Pok 7 260 470000 x
def sp__law_sign : DSp := fun _ ds Q _ => ∃ a b, ds = [.int a, .int b] ∧ Sz 200000 a ∧ Sz 200000 b ∧ Q (.int (psg a b))
def sp_beside : DSp := fun _ ds Q _ => ∃ f d, ds = [tup5 f, .int d] ∧ 0 ≤ d ∧ d ≤ 4 ∧ Szf 400 f ∧ Q (tri (bsA f d) (bsB f d) 1)
abbrev t1 (x : Int × Int) : D := tri x.1 x.2 1
def sp_greatest : DSp := fun _ ds Q _ => ∃ (L : List (Int × Int)) (m : Int × Int), ds = [.lst (L.map t1)] ∧ m ∈ L ∧ (∀ x ∈ L, Sz 1000 x.1 ∧ Sz 1000 x.2) ∧ (∀ x ∈ L, 0 ≤ psg (m.1 - x.1) (m.2 - x.2)) ∧ Q (t1 m)
def sp_least : DSp := fun _ ds Q _ => ∃ (L : List (Int × Int)) (m : Int × Int), ds = [.lst (L.map t1)] ∧ m ∈ L ∧ (∀ x ∈ L, Sz 1000 x.1 ∧ Sz 1000 x.2) ∧ (∀ x ∈ L, psg (m.1 - x.1) (m.2 - x.2) ≤ 0) ∧ Q (t1 m)
def sp_is_parted : DSp := fun _ ds Q _ => ∃ f r s g r' s' d, ds = [tl f r s, tl g r' s', .int d] ∧ TileD (tl f r s) f r s ∧ TileD (tl g r' s') g r' s' ∧ Szf 300 f ∧ Szf 300 g ∧ 0 ≤ d ∧ d ≤ 4 ∧ Q (.bl (ptD f r s g r' s' d))
def sp_are_overlapping : DSp := fun _ ds Q _ => ∃ f r s g r' s', ds = [tl f r s, tl g r' s'] ∧ TileD (tl f r s) f r s ∧ TileD (tl g r' s') g r' s' ∧ Szf 300 f ∧ Szf 300 g ∧ Q (.bl (ovl f r s g r' s'))
def sp_do_overlap : DSp := fun _ ds Q R => ∃ x y, ds = [x, y] ∧ Pk x ∧ Pk y ∧ outT (ovO x y) Q R
def sp_point_of : DSp := fun _ ds Q _ => ∃ f, ds = [tup5 f] ∧ Szf 1000 f ∧ Q (.tup [red (2 * f 0 - (f 4 + f 1)) (f 4 + f 1 - (f 3 + f 2)) 2, red (2 * f 1 - (f 0 + f 2)) (f 0 + f 2 - (f 4 + f 3)) 2, red (2 * f 2 - (f 1 + f 3)) (f 1 + f 3 - (f 0 + f 4)) 2, red (2 * f 3 - (f 2 + f 4)) (f 2 + f 4 - (f 1 + f 0)) 2, red (2 * f 4 - (f 3 + f 0)) (f 3 + f 0 - (f 2 + f 1)) 2])
def sp_minus : DSp := fun _ ds Q _ => ∃ n m a b d c e f, ds = [tri a b d, tri c e f] ∧ Num n a b d ∧ Num m c e f ∧ n + m ≤ 400000 ∧ Sz 4400 d ∧ Sz 4400 f ∧ Q (red (a * f + -c * d) (b * f + -e * d) (d * f))
def sp_sign : DSp := fun _ ds Q _ => ∃ a b m, ds = [tri a b m] ∧ 1 ≤ m ∧ Sz 200000 a ∧ Sz 200000 b ∧ Q (.int (psg a b))
def sp__law_up : DSp := fun _ ds Q _ => ∃ f j m, ds = [tup5 f, .int j, .int m] ∧ 0 ≤ j ∧ j ≤ 4 ∧ Q (tup5 (rz f j m))
def sp__law_corners : DSp := fun _ ds Q _ => ∃ f r s, ds = [tl f r s] ∧ TileD (tl f r s) f r s ∧ Q (.lst [tup5 f, tup5 (rz f r 1), tup5 (rz f s 1), tup5 (rz (rz f r 1) s 1)])
def mdD (f : Int → Int) (r s : Int) (n : Nat) : D := .tup [eg (ef f r s n) (ej r s n), .str (mkS (sum5 f) r s n), .bl (lleft r s n)]
def sp__law_marked : DSp := fun _ ds Q _ => ∃ f r s, ds = [tl f r s] ∧ TileD (tl f r s) f r s ∧ Q (.lst (four.map (mdD f r s)))
def mtC (f : Int → Int) (r s : Int) (g : Int → Int) (r' s' : Int) (n m : Nat) : Option Int := if same f r s g r' s' n m = true then some (if meet f r s g r' s' n m = true then 1 else -1) else none
def mtI (f : Int → Int) (r s : Int) (g : Int → Int) (r' s' : Int) : Int := (four.findSome? fun n => four.findSome? fun m => mtC f r s g r' s' n m).getD 0
def sp__law_meeting : DSp := fun _ ds Q _ => ∃ f r s g r' s', ds = [tl f r s, tl g r' s'] ∧ TileD (tl f r s) f r s ∧ TileD (tl g r' s') g r' s' ∧ Q (.int (mtI f r s g r' s'))
def IsT (n : Nat) (x : D) : Prop := ∃ f r s, x = tl f r s ∧ Szf n f ∧ TileD (tl f r s) f r s
def sp__law_choices : DSp := fun _ ds Q _ => ∃ f j b n, ds = [eg f j, .bl b] ∧ 0 ≤ j ∧ j ≤ 4 ∧ Szf n f ∧ 20 ≤ n ∧ ∀ L, (∀ x ∈ L, IsT (n + 1) x) → L.length ≤ 4 → Q (.lst L)
def sp__law_do_overlap : DSp := fun _ ds Q _ => ∃ f r s g r' s', ds = [tl f r s, tl g r' s'] ∧ TileD (tl f r s) f r s ∧ TileD (tl g r' s') g r' s' ∧ Szf 300 f ∧ Szf 300 g ∧ Q (.bl (ovl f r s g r' s'))
def sp__law_great : DSp := fun W ds Q _ => ∃ d l, W = some (d, l) ∧ ds = [dkD d] ∧ ∀ i, Sz 101 i → Q (.int i)
def sp__law_any_tile : DSp := fun W ds Q _ => ∃ d l, W = some (d, l) ∧ ds = [dkD d] ∧ ∀ x, IsT 110 x → Q x
def sp__law_odd : DSp := fun W ds Q _ => ∃ d l, W = some (d, l) ∧ ds = [dkD d] ∧ ∀ y, Pk y → Q y
def sp__law_bent_tile : DSp := fun W ds Q _ => ∃ d l x, W = some (d, l) ∧ ds = [dkD d, x] ∧ IsT 250 x ∧ ∀ y, Pk y → Q y
def sp__law_near : DSp := fun W ds Q _ => ∃ d l x n, W = some (d, l) ∧ ds = [dkD d, x] ∧ IsT n x ∧ 30 ≤ n ∧ ∀ y, IsT (n + 9) y → Q y
def badD : Ot → D
  | .ok d => .tup [.str "returned", d]
  | .tile x => .tup [.str "BadTile", x]
  | .edge x => .tup [.str "BadTile", x]
def noEdge : Ot → Prop
  | .edge _ => False
  | _ => True
def sp__law_bad : ASp := fun _ act Q => ∃ o, noEdge o ∧ (∀ Qd R, outT o Qd R → act R Qd) ∧ Q (badD o)
def sp__law_is_parted : DSp := fun _ ds Q _ => ∃ f r s g r' s', ds = [tl f r s, tl g r' s'] ∧ TileD (tl f r s) f r s ∧ TileD (tl g r' s') g r' s' ∧ Szf 300 f ∧ Szf 300 g ∧ Q (.bl (!ovl f r s g r' s'))
def sp__law_is_pair_right : DSp := fun W ds Q _ => ∃ d l x y, W = some (d, l) ∧ ds = [dkD d, x, y] ∧ IsT 250 x ∧ IsT 250 y ∧ Q (.bl true)
def sp__law_is_refusal_right : DSp := fun W ds Q _ => ∃ d l x y, W = some (d, l) ∧ ds = [dkD d, x, y] ∧ IsT 240 x ∧ IsT 240 y ∧ Q (.bl true)
def g_is_integer (W : WD) (R : Er → Prop) : GS :=
  (gRet (gAnd (gBlt isiD (gCons (gVar 0) (gCons (gC (.opq (.ty "int"))) gNil))) (gNot (gBlt isiD (gCons (gVar 0) (gCons (gC (.opq (.ty "bool"))) gNil))))))
def g_normal (W : WD) (R : Er → Prop) : GS :=
  (gSeq (gSet 3 (gBlt gcdD (gCons (gBlt gcdD (gCons (gVar 0) (gCons (gVar 1) gNil))) (gCons (gVar 2) gNil))))
    (gSeq (gIfS (gB (gBin ltD (gVar 2) (gC (.int 0)))) (gSet 3 (gUn negD (gVar 3))) gSkip)
    (gRet (gTup (gCons (gBin fdivA (gVar 0) (gVar 3)) (gCons (gBin fdivA (gVar 1) (gVar 3)) (gCons (gBin fdivA (gVar 2) (gVar 3)) gNil)))))))
def g_pair_sign (W : WD) (R : Er → Prop) : GS :=
  (gSeq (gSet 2 (gBin addD (gBin mulD (gC (.int 2)) (gVar 0)) (gVar 1)))
    (gSeq (gIfS (gAndT (gB (gBin geD (gVar 2) (gC (.int 0)))) (gB (gBin geD (gVar 1) (gC (.int 0))))) (gRet (gIf (gOrT (gB (gBin gtD (gVar 2) (gC (.int 0)))) (gB (gBin gtD (gVar 1) (gC (.int 0))))) (gC (.int 1)) (gC (.int 0)))) gSkip)
    (gSeq (gIfS (gAndT (gB (gBin leD (gVar 2) (gC (.int 0)))) (gB (gBin leD (gVar 1) (gC (.int 0))))) (gRet (gUn negD (gC (.int 1)))) gSkip)
    (gSeq (gSet 3 (gBin gtD (gBin mulD (gVar 2) (gVar 2)) (gBin mulD (gBin mulD (gC (.int 5)) (gVar 1)) (gVar 1))))
    (gSeq (gIfS (gB (gBin gtD (gVar 2) (gC (.int 0)))) (gRet (gIf (gTru (gVar 3)) (gC (.int 1)) (gUn negD (gC (.int 1))))) gSkip)
    (gRet (gIf (gTru (gVar 3)) (gUn negD (gC (.int 1))) (gC (.int 1)))))))))
def g_negative (W : WD) (R : Er → Prop) : GS :=
  (gRet (gTup (gCons (gUn negD (gBin ixD (gVar 0) (gC (.int 0)))) (gCons (gUn negD (gBin ixD (gVar 0) (gC (.int 1)))) (gCons (gBin ixD (gVar 0) (gC (.int 2))) gNil)))))
def g_raised (W : WD) (R : Er → Prop) : GS :=
  (gSeq (gSetL 2 (gBltF listD (gCons (gVar 0) gNil)))
    (gSeq (gAugI 2 iaddD (gBin modD (gVar 1) (gC (.int 5))) (gC (.int 1)))
    (gRet (gBlt tupleD (gCons (gVarB 2) gNil)))))
def g_are_near (W : WD) (R : Er → Prop) : GS :=
  (gRet (gBin (inD false) (gBin modD (gBin subD (gVar 0) (gVar 1)) (gC (.int 5))) (gTup (gCons (gC (.int 1)) (gCons (gC (.int 4)) gNil)))))
def g_lies_left (W : WD) (R : Er → Prop) : GS :=
  (gSeq (gSetT [2, 3] (gIf (gB (gBin (inD false) (gVar 1) (gTup (gCons (gC (.int 0)) (gCons (gC (.int 2)) gNil))))) (gTup (gCons (gBin ixD (gVar 0) (gC (.int 1))) (gCons (gBin ixD (gVar 0) (gC (.int 2))) gNil))) (gTup (gCons (gBin ixD (gVar 0) (gC (.int 2))) (gCons (gBin ixD (gVar 0) (gC (.int 1))) gNil)))))
    (gSeq (gSet 4 (gBin (inD false) (gBin modD (gBin subD (gVar 3) (gVar 2)) (gC (.int 5))) (gTup (gCons (gC (.int 1)) (gCons (gC (.int 2)) gNil)))))
    (gRet (gBin eqD (gVar 4) (gBin ltD (gVar 1) (gC (.int 2)))))))
def g_beside (W : WD) (R : Er → Prop) : GS :=
  (gSeq (gSet 2 (gBin subD (gBin ixD (gVar 0) (gBin modD (gBin addD (gVar 1) (gC (.int 1))) (gC (.int 5)))) (gBin ixD (gVar 0) (gBin modD (gBin subD (gVar 1) (gC (.int 1))) (gC (.int 5))))))
    (gSeq (gSet 3 (gBin subD (gBin ixD (gVar 0) (gBin modD (gBin addD (gVar 1) (gC (.int 2))) (gC (.int 5)))) (gBin ixD (gVar 0) (gBin modD (gBin subD (gVar 1) (gC (.int 2))) (gC (.int 5))))))
    (gRet (gTup (gCons (gBin subD (gBin mulD (gC (.int 2)) (gVar 2)) (gVar 3)) (gCons (gBin addD (gBin mulD (gC (.int 2)) (gVar 3)) (gVar 2)) (gCons (gC (.int 1)) gNil)))))))
def g__law_sign (W : WD) (R : Er → Prop) : GS :=
  (gSeq (gSet 2 (gBin addD (gBin mulD (gC (.int 2)) (gVar 0)) (gVar 1)))
    (gSeq (gIfS (gB (gBin geD (gBin mulD (gVar 2) (gVar 1)) (gC (.int 0)))) (gRet (gBin subD (gBlt intB (gCons (gBin gtD (gBin addD (gVar 2) (gVar 1)) (gC (.int 0))) gNil)) (gBlt intB (gCons (gBin ltD (gBin addD (gVar 2) (gVar 1)) (gC (.int 0))) gNil)))) gSkip)
    (gSeq (gSet 3 (gIf (gB (gBin gtD (gBin mulD (gVar 2) (gVar 2)) (gBin mulD (gBin mulD (gC (.int 5)) (gVar 1)) (gVar 1)))) (gVar 2) (gVar 1)))
    (gRet (gIf (gB (gBin gtD (gVar 3) (gC (.int 0)))) (gC (.int 1)) (gUn negD (gC (.int 1))))))))
def g__law_is_integer (W : WD) (R : Er → Prop) : GS :=
  (gRet (gAnd (gBlt isiD (gCons (gVar 0) (gCons (gC (.opq (.ty "int"))) gNil))) (gNot (gBlt isiD (gCons (gVar 0) (gCons (gC (.opq (.ty "bool"))) gNil))))))
def g__law_up (W : WD) (R : Er → Prop) : GS :=
  (gRet (gBin addD (gBin addD (gSl slD (gVar 0) gNoPart (gPart (gVar 1))) (gTup (gCons (gBin addD (gBin ixD (gVar 0) (gVar 1)) (gVar 2)) gNil))) (gSl slD (gVar 0) (gPart (gBin addD (gVar 1) (gC (.int 1)))) gNoPart)))
def g__law_bad (W : WD) (f0 : Addr) (act : ND.Act) : GS :=
  (gSeq (gSet 1 (gC .non))
    (gSeq (gTryN clsM 3 (fun _ => False) (fun R => (gSet 1 (gTup (gCons (gC (.str "returned")) (gCons (gAct f0 act R) gNil))))) [⟨"BadTile", some 2, fun er a => (gSet 1 (gTup (gCons (gC (.str "BadTile")) (gCons (gErF knownE "thing" 2 er a) gNil))))⟩])
    (gRet (gVar 1))))
def g_is_number (W : WD) (R : Er → Prop) : GS :=
  (gSeq (gIfS (gOrT (gNotT (gTru (gBlt isiD (gCons (gVar 0) (gCons (gC (.opq (.ty "tuple"))) gNil))))) (gB (gBin neD (gBlt lenD (gCons (gVar 0) gNil)) (gC (.int 3))))) (gRet (gC (.bl false))) gSkip)
    (gRet (gAnd (gCall sp_is_integer W R (gCons (gBin ixD (gVar 0) (gC (.int 0))) gNil)) (gAnd (gCall sp_is_integer W R (gCons (gBin ixD (gVar 0) (gC (.int 1))) gNil)) (gAnd (gCall sp_is_integer W R (gCons (gBin ixD (gVar 0) (gC (.int 2))) gNil)) (gBin geD (gBin ixD (gVar 0) (gC (.int 2))) (gC (.int 1))))))))
def g_sign_of (W : WD) (R : Er → Prop) : GS :=
  (gRet (gCall sp_pair_sign W R (gCons (gBin ixD (gVar 0) (gC (.int 0))) (gCons (gBin ixD (gVar 0) (gC (.int 1))) gNil))))
def g_compared (W : WD) (R : Er → Prop) : GS :=
  (gRet (gCall sp_pair_sign W R (gCons (gBin subD (gBin mulD (gBin ixD (gVar 0) (gC (.int 0))) (gBin ixD (gVar 1) (gC (.int 2)))) (gBin mulD (gBin ixD (gVar 1) (gC (.int 0))) (gBin ixD (gVar 0) (gC (.int 2))))) (gCons (gBin subD (gBin mulD (gBin ixD (gVar 0) (gC (.int 1))) (gBin ixD (gVar 1) (gC (.int 2)))) (gBin mulD (gBin ixD (gVar 1) (gC (.int 1))) (gBin ixD (gVar 0) (gC (.int 2))))) gNil))))
def g_added (W : WD) (R : Er → Prop) : GS :=
  (gSeq (gSet 2 (gBin mulD (gBin ixD (gVar 0) (gC (.int 2))) (gBin ixD (gVar 1) (gC (.int 2)))))
    (gRet (gCall sp_normal W R (gCons (gBin addD (gBin mulD (gBin ixD (gVar 0) (gC (.int 0))) (gBin ixD (gVar 1) (gC (.int 2)))) (gBin mulD (gBin ixD (gVar 1) (gC (.int 0))) (gBin ixD (gVar 0) (gC (.int 2))))) (gCons (gBin addD (gBin mulD (gBin ixD (gVar 0) (gC (.int 1))) (gBin ixD (gVar 1) (gC (.int 2)))) (gBin mulD (gBin ixD (gVar 1) (gC (.int 1))) (gBin ixD (gVar 0) (gC (.int 2))))) (gCons (gVar 2) gNil))))))
def g_is_direction (W : WD) (R : Er → Prop) : GS :=
  (gRet (gAnd (gCall sp_is_integer W R (gCons (gVar 0) gNil)) (gChain leD leD (gC (.int 0)) (gVar 0) (gC (.int 4)))))
def g_is_five (W : WD) (R : Er → Prop) : GS :=
  (gRet (gAnd (gBlt isiD (gCons (gVar 0) (gCons (gC (.opq (.ty "tuple"))) gNil))) (gAnd (gBin eqD (gBlt lenD (gCons (gVar 0) gNil)) (gC (.int 5))) (gBlt allD (gCons (gFrz (gLc (gIter (gVar 0)) (ggName 1) gYes (gCall sp_is_integer W (fun _ => False) (gCons (gVar 1) gNil)) [1])) gNil)))))
def g__law_pick (W : WD) (R : Er → Prop) : GS :=
  (gRet (gBin ixD (gVar 1) (gCall sp__law_draw W R (gCons (gVar 0) (gCons (gBlt lenD (gCons (gVar 1) gNil)) gNil)))))
def g__law_corners (W : WD) (R : Er → Prop) : GS :=
  (gSeq (gSetT [1, 2, 3] (gVar 0))
    (gRet (gFrz (gLst (gCons (gVar 1) (gCons (gCallV sp__law_up [.int 1] W R (gCons (gVar 1) (gCons (gVar 2) gNil))) (gCons (gCallV sp__law_up [.int 1] W R (gCons (gVar 1) (gCons (gVar 3) gNil))) (gCons (gCallV sp__law_up [.int 1] W R (gCons (gCallV sp__law_up [.int 1] W R (gCons (gVar 1) (gCons (gVar 2) gNil))) (gCons (gVar 3) gNil))) gNil))))))))
def g__law_marked (W : WD) (R : Er → Prop) : GS :=
  (gSeq (gSetT [1, 2, 3] (gVar 0))
    (gSeq (gSet 4 (gIf (gB (gBin eqD (gBin (inD false) (gBin subD (gVar 3) (gVar 2)) (gTup (gCons (gC (.int 1)) (gCons (gC (.int 4)) gNil)))) (gBin eqD (gBlt sumD (gCons (gVar 1) gNil)) (gC (.int 1))))) (gC (.str "up")) (gC (.str "down"))))
    (gSeq (gSetL 5 (gLst gNil))
    (gSeq (gFor (gIter (gTup (gCons (gTup (gCons (gVar 1) (gCons (gVar 2) (gCons (gVar 3) gNil)))) (gCons (gTup (gCons (gVar 1) (gCons (gVar 3) (gCons (gVar 2) gNil)))) (gCons (gTup (gCons (gCallV sp__law_up [.int 1] W R (gCons (gVar 1) (gCons (gVar 3) gNil))) (gCons (gVar 2) (gCons (gVar 3) gNil)))) (gCons (gTup (gCons (gCallV sp__law_up [.int 1] W R (gCons (gVar 1) (gCons (gVar 2) gNil))) (gCons (gVar 3) (gCons (gVar 2) gNil)))) gNil)))))) (ggTup [6, 7, 8]) (gSeq (gSet 9 (gBin (inD false) (gBin modD (gBlt intB (gCons (gBin addD (gBin subD (gVar 8) (gVar 7)) (gC (.int 5))) gNil)) (gC (.int 5))) (gTup (gCons (gC (.int 1)) (gCons (gC (.int 2)) gNil)))))
    (gApp 5 (gTup (gCons (gTup (gCons (gVar 6) (gCons (gVar 7) gNil))) (gCons (gIf (gB (gBin eqD (gBlt sumD (gCons (gVar 6) gNil)) (gC (.int 2)))) (gVar 4) (gC (.str "outer"))) (gCons (gBin eqD (gVar 9) (gBin eqD (gBin ixD (gVar 6) (gVar 8)) (gBin ixD (gVar 1) (gVar 8)))) gNil)))))))
    (gFz 5 (gRet (gVar 5)))))))
def g__law_choices (W : WD) (R : Er → Prop) : GS :=
  (gSeq (gSetL 2 (gLst gNil))
    (gSeq (gFor (gRng2 (gCons (gC (.int 1)) (gCons (gC (.int 5)) gNil))) (ggName 3) (gSeq (gSet 4 (gBin modD (gBlt intB (gCons (gBin addD (gBin ixD (gVar 0) (gC (.int 1))) (gVar 3)) gNil)) (gC (.int 5))))
    (gSeq (gSet 5 (gIf (gB (gBin eqD (gBin ltD (gVar 3) (gC (.int 3))) (gVar 1))) (gBin ixD (gVar 0) (gC (.int 0))) (gCallV sp__law_up [] W R (gCons (gBin ixD (gVar 0) (gC (.int 0))) (gCons (gVar 4) (gCons (gUn negD (gC (.int 1))) gNil))))))
    (gIfS (gB (gBin (inD false) (gBlt sumD (gCons (gVar 5) gNil)) (gTup (gCons (gC (.int 1)) (gCons (gC (.int 2)) gNil))))) (gApp 2 (gTup (gCons (gVar 5) (gCons (gBlt min2D (gCons (gBin ixD (gVar 0) (gC (.int 1))) (gCons (gVar 4) gNil))) (gCons (gBlt max2D (gCons (gBin ixD (gVar 0) (gC (.int 1))) (gCons (gVar 4) gNil))) gNil))))) gSkip))))
    (gFz 2 (gRet (gVar 2)))))
def g__law_do_overlap (W : WD) (R : Er → Prop) : GS :=
  (gSeq (gSet 2 (gBin addD (gSl slD (gVar 0) (gPart (gC (.int 1))) gNoPart) (gSl slD (gVar 1) (gPart (gC (.int 1))) gNoPart)))
    (gSeq (gSetL 3 (gLc (gZip (gCons (gBin ixD (gVar 0) (gC (.int 0))) (gCons (gBin ixD (gVar 1) (gC (.int 0))) gNil))) (ggTup [9, 10]) gYes (gBin mulD (gC (.int 2)) (gBin subD (gVar 10) (gVar 9))) [9, 10]))
    (gSeq (gFor (gEnum (gCons (gVar 2) gNil)) (ggTup [4, 5]) (gSetI 3 (gBin addD (gBin ixD (gVarB 3) (gVar 5)) (gIf (gB (gBin gtD (gVar 4) (gC (.int 1)))) (gC (.int 1)) (gUn negD (gC (.int 1))))) (gVar 5)))
    (gSeq (gFor (gIter (gVar 2)) (ggName 6) (gSeq (gPar [7, 8] (gCons (gBin subD (gBin ixD (gVarB 3) (gBin subD (gVar 6) (gC (.int 3)))) (gBin ixD (gVarB 3) (gBin subD (gVar 6) (gC (.int 2))))) (gCons (gBin subD (gBin ixD (gVarB 3) (gBin subD (gVar 6) (gC (.int 4)))) (gBin ixD (gVarB 3) (gBin subD (gVar 6) (gC (.int 1))))) gNil)))
    (gSeq (gIfS (gB (gBin ltD (gCall sp__law_sign W R (gCons (gVar 7) (gCons (gVar 8) gNil))) (gC (.int 0)))) (gPar [7, 8] (gCons (gUn negD (gVar 7)) (gCons (gUn negD (gVar 8)) gNil))) gSkip)
    (gSeq (gFor (gIter (gVar 2)) (ggName 5) (gPar [7, 8] (gCons (gBin subD (gVar 7) (gBlt intB (gCons (gBin (inD false) (gBlt absD (gCons (gBin subD (gVar 5) (gVar 6)) gNil)) (gTup (gCons (gC (.int 2)) (gCons (gC (.int 3)) gNil)))) gNil))) (gCons (gBin subD (gVar 8) (gBlt intB (gCons (gBin (inD false) (gBlt absD (gCons (gBin subD (gVar 5) (gVar 6)) gNil)) (gTup (gCons (gC (.int 1)) (gCons (gC (.int 4)) gNil)))) gNil))) gNil))))
    (gIfS (gB (gBin geD (gCall sp__law_sign W R (gCons (gVar 7) (gCons (gVar 8) gNil))) (gC (.int 0)))) (gRet (gC (.bl false))) gSkip)))))
    (gRet (gC (.bl true)))))))
def g__law_is_tile (W : WD) (R : Er → Prop) : GS :=
  (gSeq (gIfS (gOrT (gNotT (gTru (gBlt isiD (gCons (gVar 0) (gCons (gC (.opq (.ty "tuple"))) gNil))))) (gOrT (gB (gBin neD (gBlt lenD (gCons (gVar 0) gNil)) (gC (.int 3)))) (gOrT (gNotT (gTru (gBlt isiD (gCons (gBin ixD (gVar 0) (gC (.int 0))) (gCons (gC (.opq (.ty "tuple"))) gNil))))) (gB (gBin neD (gBlt lenD (gCons (gBin ixD (gVar 0) (gC (.int 0))) gNil)) (gC (.int 5))))))) (gRet (gC (.bl false))) gSkip)
    (gSeq (gIfS (gB (gBin neE (gFrz (gLc (gIter (gBin addD (gBin ixD (gVar 0) (gC (.int 0))) (gSl slD (gVar 0) (gPart (gC (.int 1))) gNoPart))) (ggName 1) (gNotT (gTru (gCall sp__law_is_integer W (fun _ => False) (gCons (gVar 1) gNil)))) (gVar 1) [1])) (gFrz (gLst gNil)))) (gRet (gC (.bl false))) gSkip)
    (gRet (gAnd (gBin (inD false) (gBlt sumD (gCons (gBin ixD (gVar 0) (gC (.int 0))) gNil)) (gTup (gCons (gC (.int 1)) (gCons (gC (.int 2)) gNil)))) (gChain3 leD ltD leD (gC (.int 0)) (gBin ixD (gVar 0) (gC (.int 1))) (gBin ixD (gVar 0) (gC (.int 2))) (gC (.int 4)))))))
def g__law_great (W : WD) (R : Er → Prop) : GS :=
  (gSeq (gSet 1 (gC (.int 0)))
    (gSeq (gFor (gRng1 (gCons (gC (.int 5)) gNil)) (ggName 2) (gSet 1 (gBin addD (gBin mulD (gVar 1) (gBin powD (gC (.int 10)) (gC (.int 6)))) (gCall sp__law_draw W R (gCons (gVar 0) (gCons (gBin powD (gC (.int 10)) (gC (.int 6))) gNil))))))
    (gRet (gIf (gB (gBin eqD (gCall sp__law_draw W R (gCons (gVar 0) (gCons (gC (.int 2)) gNil))) (gC (.int 0)))) (gVar 1) (gBin subD (gUn negD (gC (.int 1))) (gVar 1))))))
def g_taken (W : WD) (R : Er → Prop) : GS :=
  (gRet (gCall sp_added W R (gCons (gVar 0) (gCons (gCall sp_negative W R (gCons (gVar 1) gNil)) gNil))))
def g_greatest (W : WD) (R : Er → Prop) : GS :=
  (gSeq (gSet 1 (gC .non))
    (gSeq (gFor (gIter (gVar 0)) (ggName 2) (gIfS (gAndT (gB (gBin (isD true) (gVar 2) (gC .non))) (gOrT (gB (gBin (isD false) (gVar 1) (gC .non))) (gB (gBin gtD (gCall sp_compared W R (gCons (gVar 2) (gCons (gVar 1) gNil))) (gC (.int 0)))))) (gSet 1 (gVar 2)) gSkip))
    (gRet (gVar 1))))
def g_least (W : WD) (R : Er → Prop) : GS :=
  (gSeq (gSet 1 (gC .non))
    (gSeq (gFor (gIter (gVar 0)) (ggName 2) (gIfS (gAndT (gB (gBin (isD true) (gVar 2) (gC .non))) (gOrT (gB (gBin (isD false) (gVar 1) (gC .non))) (gB (gBin ltD (gCall sp_compared W R (gCons (gVar 2) (gCons (gVar 1) gNil))) (gC (.int 0)))))) (gSet 1 (gVar 2)) gSkip))
    (gRet (gVar 1))))
def g_is_corner_five (W : WD) (R : Er → Prop) : GS :=
  (gRet (gAnd (gCall sp_is_five W R (gCons (gVar 0) gNil)) (gChain leD leD (gC (.int 1)) (gBlt sumD (gCons (gVar 0) gNil)) (gC (.int 4)))))
def g_need_numbers (W : WD) (R : Er → Prop) : GS :=
  (gFor (gIter (gVar 0)) (ggName 1) (gIfS (gNotT (gTru (gCall sp_is_number W R (gCons (gVar 1) gNil)))) (gRaise "BadNumber" "thing" (gVar 1) R) gSkip))
def g_point_of (W : WD) (R : Er → Prop) : GS :=
  (gSeq (gIfS (gNotT (gTru (gCall sp_is_five W R (gCons (gVar 0) gNil)))) (gRaise "BadRow" "thing" (gVar 0) R) gSkip)
    (gSeq (gSetL 1 (gLst gNil))
    (gSeq (gFor (gRng1 (gCons (gC (.int 5)) gNil)) (ggName 2) (gSeq (gSet 3 (gBin addD (gBin ixD (gVar 0) (gBin modD (gBin subD (gVar 2) (gC (.int 1))) (gC (.int 5)))) (gBin ixD (gVar 0) (gBin modD (gBin addD (gVar 2) (gC (.int 1))) (gC (.int 5))))))
    (gSeq (gSet 4 (gBin addD (gBin ixD (gVar 0) (gBin modD (gBin subD (gVar 2) (gC (.int 2))) (gC (.int 5)))) (gBin ixD (gVar 0) (gBin modD (gBin addD (gVar 2) (gC (.int 2))) (gC (.int 5))))))
    (gApp 1 (gCall sp_normal W R (gCons (gBin subD (gBin mulD (gC (.int 2)) (gBin ixD (gVar 0) (gVar 2))) (gVar 3)) (gCons (gBin subD (gVar 3) (gVar 4)) (gCons (gC (.int 2)) gNil))))))))
    (gRet (gBlt tupleD (gCons (gVarB 1) gNil))))))
def g__law_meeting (W : WD) (R : Er → Prop) : GS :=
  (gSeq (gFor (gIter (gCall sp__law_marked W R (gCons (gVar 0) gNil))) (ggTup [2, 3, 4]) (gFor (gIter (gCall sp__law_marked W R (gCons (gVar 1) gNil))) (ggTup [5, 6, 7]) (gIfS (gB (gBin eqD (gVar 2) (gVar 5))) (gRet (gIf (gAndT (gB (gBin eqD (gVar 3) (gVar 6))) (gB (gBin neD (gVar 4) (gVar 7)))) (gC (.int 1)) (gUn negD (gC (.int 1))))) gSkip)))
    (gRet (gC (.int 0))))
def g__law_odd (W : WD) (R : Er → Prop) : GS :=
  (gSeq (gSet 1 (gFrz (gLst (gCons (gC .non) (gCons (gC (.bl true)) (gCons (gC (.int 0)) (gCons (gUn negD (gC (.int 1))) (gCons (gBin powD (gC (.int 10)) (gC (.int 60))) (gCons (gC (.str "")) (gCons (gC (.str "tile")) (gCons (gTup gNil) (gCons (gFrz (gLst gNil)) (gCons (gC (.dic [])) (gCons (gTup (gCons (gC (.int 0)) (gCons (gC (.int 0)) (gCons (gC (.int 0)) (gCons (gC (.int 0)) (gCons (gC (.int 1)) gNil)))))) (gCons (gTup (gCons (gC (.str "a")) gNil)) (gCons (gTup (gCons (gTup gNil) gNil)) (gCons (gFrz (gLst (gCons (gFrz (gLst gNil)) gNil))) (gCons (gDic1 (.inr "tile") (gTup (gCons (gC (.int 1)) gNil))) gNil))))))))))))))))))
    (gRet (gCall sp__law_pick W R (gCons (gVar 0) (gCons (gBin addD (gVar 1) (gFrz (gLst (gCons (gTup (gCons (gTup (gCons (gC (.int 0)) (gCons (gC (.int 0)) (gCons (gC (.int 0)) (gCons (gC (.int 0)) (gCons (gC (.int 1)) gNil)))))) (gCons (gTup (gCons (gC (.int 0)) (gCons (gC (.int 1)) gNil))) gNil))) (gCons (gTup (gCons (gTup (gCons (gTup (gCons (gC (.int 0)) (gCons (gC (.int 0)) (gCons (gC (.int 0)) (gCons (gC (.int 0)) (gCons (gC (.int 1)) gNil)))))) (gCons (gC (.int 0)) (gCons (gC (.int 1)) gNil)))) (gCons (gC (.int 2)) (gCons (gC (.int 3)) gNil)))) (gCons (gC (.str "((0, 0, 0, 0, 1), 0, 1)")) gNil)))))) gNil)))))
def g__law_any_tile (W : WD) (R : Er → Prop) : GS :=
  (gSeq (gSet 1 (gFrz (gLc (gRng1 (gCons (gC (.int 4)) gNil)) (ggName 3) gYes (gIf (gB (gBin eqD (gCall sp__law_draw W (fun _ => False) (gCons (gVar 0) (gCons (gC (.int 6)) gNil))) (gC (.int 0)))) (gCall sp__law_great W (fun _ => False) (gCons (gVar 0) gNil)) (gBin subD (gCall sp__law_draw W (fun _ => False) (gCons (gVar 0) (gCons (gC (.int 5)) gNil))) (gC (.int 2)))) [3])))
    (gSeq (gPar [2, 3] (gCons (gBlt tupleD (gCons (gBin addD (gVar 1) (gFrz (gLst (gCons (gBin subD (gBin addD (gC (.int 1)) (gCall sp__law_draw W R (gCons (gVar 0) (gCons (gC (.int 2)) gNil)))) (gBlt sumD (gCons (gVar 1) gNil))) gNil)))) gNil)) (gCons (gCall sp__law_draw W R (gCons (gVar 0) (gCons (gC (.int 5)) gNil))) gNil)))
    (gSeq (gSet 4 (gBin modD (gBlt intB (gCons (gBin addD (gBin addD (gVar 3) (gC (.int 1))) (gCall sp__law_draw W R (gCons (gVar 0) (gCons (gC (.int 4)) gNil)))) gNil)) (gC (.int 5))))
    (gRet (gTup (gCons (gVar 2) (gCons (gBlt min2D (gCons (gVar 3) (gCons (gVar 4) gNil))) (gCons (gBlt max2D (gCons (gVar 3) (gCons (gVar 4) gNil))) gNil))))))))
def g__law_near (W : WD) (R : Er → Prop) : GS :=
  (gSeq (gSet 2 (gCall sp__law_pick W R (gCons (gVar 0) (gCons (gCall sp__law_corners W R (gCons (gVar 1) gNil)) gNil))))
    (gSeq (gFor (gRng1 (gCons (gCall sp__law_pick W R (gCons (gVar 0) (gCons (gFrz (gLst (gCons (gC (.int 0)) (gCons (gC (.int 1)) (gCons (gC (.int 2)) (gCons (gC (.int 4)) (gCons (gC (.int 1)) (gCons (gC (.int 3)) gNil)))))))) gNil))) gNil)) (ggName 3) (gSet 2 (gCallV sp__law_up [] W R (gCons (gVar 2) (gCons (gCall sp__law_draw W R (gCons (gVar 0) (gCons (gC (.int 5)) gNil))) (gCons (gBin subD (gC (.int 1)) (gBin mulD (gC (.int 2)) (gCall sp__law_draw W R (gCons (gVar 0) (gCons (gC (.int 2)) gNil))))) gNil))))))
    (gSeq (gSet 4 (gCall sp__law_draw W R (gCons (gVar 0) (gCons (gC (.int 5)) gNil))))
    (gSeq (gSet 5 (gBin modD (gBlt intB (gCons (gBin addD (gBin addD (gVar 4) (gC (.int 1))) (gCall sp__law_draw W R (gCons (gVar 0) (gCons (gC (.int 4)) gNil)))) gNil)) (gC (.int 5))))
    (gRet (gTup (gCons (gCallV sp__law_up [] W R (gCons (gVar 2) (gCons (gCall sp__law_draw W R (gCons (gVar 0) (gCons (gC (.int 5)) gNil))) (gCons (gBin subD (gBin addD (gC (.int 1)) (gCall sp__law_draw W R (gCons (gVar 0) (gCons (gC (.int 2)) gNil)))) (gBlt sumD (gCons (gVar 2) gNil))) gNil)))) (gCons (gBlt min2D (gCons (gVar 4) (gCons (gVar 5) gNil))) (gCons (gBlt max2D (gCons (gVar 4) (gCons (gVar 5) gNil))) gNil)))))))))
def g_minus (W : WD) (R : Er → Prop) : GS :=
  (gSeq (gDrop (gCall sp_need_numbers W R (gCons (gTup (gCons (gVar 0) (gCons (gVar 1) gNil))) gNil)))
    (gRet (gCall sp_taken W R (gCons (gVar 0) (gCons (gVar 1) gNil)))))
def g_sign (W : WD) (R : Er → Prop) : GS :=
  (gSeq (gDrop (gCall sp_need_numbers W R (gCons (gTup (gCons (gVar 0) gNil)) gNil)))
    (gRet (gCall sp_sign_of W R (gCons (gVar 0) gNil))))
def g_is_tile_row (W : WD) (R : Er → Prop) : GS :=
  (gSeq (gIfS (gOrT (gNotT (gTru (gBlt isiD (gCons (gVar 0) (gCons (gC (.opq (.ty "tuple"))) gNil))))) (gOrT (gB (gBin neD (gBlt lenD (gCons (gVar 0) gNil)) (gC (.int 3)))) (gNotT (gTru (gCall sp_is_corner_five W R (gCons (gBin ixD (gVar 0) (gC (.int 0))) gNil)))))) (gRet (gC (.bl false))) gSkip)
    (gRet (gAnd (gBin leD (gBlt sumD (gCons (gBin ixD (gVar 0) (gC (.int 0))) gNil)) (gC (.int 2))) (gAnd (gCall sp_is_direction W R (gCons (gBin ixD (gVar 0) (gC (.int 1))) gNil)) (gAnd (gCall sp_is_direction W R (gCons (gBin ixD (gVar 0) (gC (.int 2))) gNil)) (gBin ltD (gBin ixD (gVar 0) (gC (.int 1))) (gBin ixD (gVar 0) (gC (.int 2)))))))))
def g__law_bent_tile (W : WD) (R : Er → Prop) : GS :=
  (gSeq (gSetT [2, 3, 4] (gVar 1))
    (gSeq (gPar [5, 6] (gCons (gCall sp__law_draw W R (gCons (gVar 0) (gCons (gC (.int 14)) gNil))) (gCons (gCall sp__law_draw W R (gCons (gVar 0) (gCons (gC (.int 5)) gNil))) gNil)))
    (gSeq (gIfS (gB (gBin ltD (gVar 5) (gC (.int 2)))) (gRet (gIf (gB (gBin eqD (gVar 5) (gC (.int 0)))) (gFrz (gBltF listD (gCons (gVar 1) gNil))) (gTup (gCons (gFrz (gBltF listD (gCons (gVar 2) gNil))) (gCons (gVar 3) (gCons (gVar 4) gNil)))))) gSkip)
    (gSeq (gIfS (gB (gBin ltD (gVar 5) (gC (.int 4)))) (gRet (gIf (gB (gBin eqD (gVar 5) (gC (.int 2)))) (gTup (gCons (gVar 2) (gCons (gVar 4) (gCons (gVar 3) gNil)))) (gTup (gCons (gVar 2) (gCons (gVar 3) (gCons (gVar 3) gNil)))))) gSkip)
    (gSeq (gIfS (gB (gBin ltD (gVar 5) (gC (.int 6)))) (gRet (gIf (gB (gBin eqD (gVar 5) (gC (.int 4)))) (gTup (gCons (gVar 2) (gCons (gVar 3) gNil))) (gTup (gCons (gVar 2) (gCons (gVar 3) (gCons (gVar 4) (gCons (gC (.int 0)) gNil))))))) gSkip)
    (gSeq (gIfS (gB (gBin eqD (gVar 5) (gC (.int 6)))) (gRet (gTup (gCons (gCallV sp__law_up [] W R (gCons (gVar 2) (gCons (gVar 6) (gCons (gCall sp__law_pick W R (gCons (gVar 0) (gCons (gFrz (gLst (gCons (gC (.int 1)) (gCons (gUn negD (gC (.int 1))) (gCons (gC (.int 2)) (gCons (gUn negD (gC (.int 2))) (gCons (gC (.int 3)) (gCons (gC (.int 5)) (gCons (gUn negD (gC (.int 5))) gNil))))))))) gNil))) gNil)))) (gCons (gVar 3) (gCons (gVar 4) gNil))))) gSkip)
    (gSeq (gIfS (gB (gBin ltD (gVar 5) (gC (.int 9)))) (gRet (gIf (gB (gBin eqD (gVar 5) (gC (.int 7)))) (gTup (gCons (gSl slD (gVar 2) gNoPart (gPart (gC (.int 4)))) (gCons (gVar 3) (gCons (gVar 4) gNil)))) (gTup (gCons (gBin addD (gVar 2) (gTup (gCons (gC (.int 0)) gNil))) (gCons (gVar 3) (gCons (gVar 4) gNil)))))) gSkip)
    (gSeq (gIfS (gB (gBin eqD (gVar 5) (gC (.int 9)))) (gRet (gTup (gCons (gBin addD (gBin addD (gSl slD (gVar 2) gNoPart (gPart (gVar 6))) (gTup (gCons (gCall sp__law_pick W R (gCons (gVar 0) (gCons (gFrz (gLst (gCons (gC (.bl true)) (gCons (gC (.bl false)) (gCons (gC .non) (gCons (gC (.str "0")) (gCons (gTup (gCons (gC (.int 0)) gNil)) (gCons (gFrz (gLst (gCons (gC (.int 1)) gNil))) gNil)))))))) gNil))) gNil))) (gSl slD (gVar 2) (gPart (gBin addD (gVar 6) (gC (.int 1)))) gNoPart)) (gCons (gVar 3) (gCons (gVar 4) gNil))))) gSkip)
    (gSeq (gIfS (gB (gBin eqD (gVar 5) (gC (.int 10)))) (gRet (gTup (gCons (gVar 2) (gCons (gCall sp__law_pick W R (gCons (gVar 0) (gCons (gFrz (gLst (gCons (gC (.bl true)) (gCons (gC (.bl false)) (gCons (gC .non) (gCons (gUn negD (gC (.int 1))) (gCons (gC (.int 5)) (gCons (gC (.str "0")) (gCons (gTup (gCons (gVar 3) gNil)) gNil))))))))) gNil))) (gCons (gVar 4) gNil))))) gSkip)
    (gSeq (gIfS (gB (gBin eqD (gVar 5) (gC (.int 11)))) (gRet (gTup (gCons (gVar 2) (gCons (gVar 3) (gCons (gCall sp__law_pick W R (gCons (gVar 0) (gCons (gFrz (gLst (gCons (gC (.bl true)) (gCons (gC (.int 5)) (gCons (gC .non) (gCons (gC (.str "4")) (gCons (gUn negD (gC (.int 1))) (gCons (gFrz (gLst (gCons (gVar 4) gNil))) (gCons (gBin powD (gC (.int 10)) (gC (.int 30))) gNil))))))))) gNil))) gNil))))) gSkip)
    (gRet (gIf (gB (gBin eqD (gVar 5) (gC (.int 12)))) (gTup (gCons (gTup (gCons (gVar 2) (gCons (gVar 3) (gCons (gVar 4) gNil)))) gNil)) (gCall sp__law_odd W R (gCons (gVar 0) gNil))))))))))))))
def g_need_tile (W : WD) (R : Er → Prop) : GS :=
  (gIfS (gNotT (gTru (gCall sp_is_tile_row W R (gCons (gVar 0) gNil)))) (gRaise "BadTile" "thing" (gVar 0) R) gSkip)
def g__law_is_parted (W : WD) (R : Er → Prop) : GS :=
  (gSeq (gSet 2 (gFrz (gLc (gIter (gCall sp__law_corners W R (gCons (gVar 0) gNil))) (ggName 8) gYes (gCall sp_point_of W (fun _ => False) (gCons (gVar 8) gNil)) [8])))
    (gSeq (gSet 3 (gFrz (gLc (gIter (gCall sp__law_corners W R (gCons (gVar 1) gNil))) (ggName 8) gYes (gCall sp_point_of W (fun _ => False) (gCons (gVar 8) gNil)) [8])))
    (gSeq (gFor (gIter (gBin addD (gSl slD (gVar 0) (gPart (gC (.int 1))) gNoPart) (gSl slD (gVar 1) (gPart (gC (.int 1))) gNoPart))) (ggName 4) (gSeq (gSetL 5 (gLst gNil))
    (gSeq (gFor (gIter (gVar 2)) (ggName 6) (gFor (gIter (gVar 3)) (ggName 7) (gApp 5 (gCall sp_sign W R (gCons (gCall sp_minus W R (gCons (gCall sp_minus W R (gCons (gBin ixD (gVar 6) (gBin subD (gVar 4) (gC (.int 4)))) (gCons (gBin ixD (gVar 6) (gBin subD (gVar 4) (gC (.int 1)))) gNil))) (gCons (gCall sp_minus W R (gCons (gBin ixD (gVar 7) (gBin subD (gVar 4) (gC (.int 4)))) (gCons (gBin ixD (gVar 7) (gBin subD (gVar 4) (gC (.int 1)))) gNil))) gNil))) gNil)))))
    (gIfS (gOrT (gB (gBin geD (gBlt minLD (gCons (gVarB 5) gNil)) (gC (.int 0)))) (gB (gBin leD (gBlt maxLD (gCons (gVarB 5) gNil)) (gC (.int 0))))) (gRet (gC (.bl true))) gSkip))))
    (gRet (gC (.bl false))))))
def g_corners_of (W : WD) (R : Er → Prop) : GS :=
  (gSeq (gDrop (gCall sp_need_tile W R (gCons (gVar 0) gNil)))
    (gSeq (gSetT [1, 2, 3] (gVar 0))
    (gSeq (gSet 4 (gCall sp_raised W R (gCons (gVar 1) (gCons (gVar 2) gNil))))
    (gRet (gTup (gCons (gVar 1) (gCons (gVar 4) (gCons (gCall sp_raised W R (gCons (gVar 1) (gCons (gVar 3) gNil))) (gCons (gCall sp_raised W R (gCons (gVar 4) (gCons (gVar 3) gNil))) gNil)))))))))
def g_edges_of (W : WD) (R : Er → Prop) : GS :=
  (gSeq (gDrop (gCall sp_need_tile W R (gCons (gVar 0) gNil)))
    (gSeq (gSetT [1, 2, 3] (gVar 0))
    (gRet (gTup (gCons (gTup (gCons (gVar 1) (gCons (gVar 2) gNil))) (gCons (gTup (gCons (gVar 1) (gCons (gVar 3) gNil))) (gCons (gTup (gCons (gCall sp_raised W R (gCons (gVar 1) (gCons (gVar 3) gNil))) (gCons (gVar 2) gNil))) (gCons (gTup (gCons (gCall sp_raised W R (gCons (gVar 1) (gCons (gVar 2) gNil))) (gCons (gVar 3) gNil))) gNil))))))))
def g_is_thick (W : WD) (R : Er → Prop) : GS :=
  (gSeq (gDrop (gCall sp_need_tile W R (gCons (gVar 0) gNil)))
    (gRet (gCall sp_are_near W R (gCons (gBin ixD (gVar 0) (gC (.int 1))) (gCons (gBin ixD (gVar 0) (gC (.int 2))) gNil)))))
def g_is_low (W : WD) (R : Er → Prop) : GS :=
  (gSeq (gDrop (gCall sp_need_tile W R (gCons (gVar 0) gNil)))
    (gRet (gBin eqD (gBlt sumD (gCons (gBin ixD (gVar 0) (gC (.int 0))) gNil)) (gC (.int 1)))))
def g_marks_of (W : WD) (R : Er → Prop) : GS :=
  (gSeq (gSet 1 (gIf (gB (gBin eqD (gCall sp_is_thick W R (gCons (gVar 0) gNil)) (gCall sp_is_low W R (gCons (gVar 0) gNil)))) (gC (.str "up")) (gC (.str "down"))))
    (gSeq (gIfS (gTru (gCall sp_is_low W R (gCons (gVar 0) gNil))) (gRet (gTup (gCons (gC (.str "outer")) (gCons (gC (.str "outer")) (gCons (gVar 1) (gCons (gVar 1) gNil)))))) gSkip)
    (gRet (gTup (gCons (gVar 1) (gCons (gVar 1) (gCons (gC (.str "outer")) (gCons (gC (.str "outer")) gNil))))))))
def g_is_parted (W : WD) (R : Er → Prop) : GS :=
  (gSeq (gSet 3 (gFrz (gLc (gIter (gCall sp_corners_of W R (gCons (gVar 0) gNil))) (ggName 5) gYes (gCall sp_beside W (fun _ => False) (gCons (gVar 5) (gCons (gVar 2) gNil))) [5])))
    (gSeq (gSet 4 (gFrz (gLc (gIter (gCall sp_corners_of W R (gCons (gVar 1) gNil))) (ggName 5) gYes (gCall sp_beside W (fun _ => False) (gCons (gVar 5) (gCons (gVar 2) gNil))) [5])))
    (gRet (gOr (gBin leD (gCall sp_compared W R (gCons (gCall sp_greatest W R (gCons (gVar 3) gNil)) (gCons (gCall sp_least W R (gCons (gVar 4) gNil)) gNil))) (gC (.int 0))) (gBin leD (gCall sp_compared W R (gCons (gCall sp_greatest W R (gCons (gVar 4) gNil)) (gCons (gCall sp_least W R (gCons (gVar 3) gNil)) gNil))) (gC (.int 0)))))))
def g_does_fit (W : WD) (R : Er → Prop) : GS :=
  (gSeq (gPar [2, 3] (gCons (gCall sp_edges_of W R (gCons (gVar 0) gNil)) (gCons (gCall sp_edges_of W R (gCons (gVar 1) gNil)) gNil)))
    (gSeq (gFor (gRng1 (gCons (gC (.int 4)) gNil)) (ggName 4) (gFor (gRng1 (gCons (gC (.int 4)) gNil)) (ggName 5) (gIfS (gAndT (gB (gBin eqD (gBin ixD (gVar 2) (gVar 4)) (gBin ixD (gVar 3) (gVar 5)))) (gB (gBin neD (gCall sp_lies_left W R (gCons (gVar 0) (gCons (gVar 4) gNil))) (gCall sp_lies_left W R (gCons (gVar 1) (gCons (gVar 5) gNil)))))) (gIfS (gB (gBin eqD (gBin ixD (gCall sp_marks_of W R (gCons (gVar 0) gNil)) (gVar 4)) (gBin ixD (gCall sp_marks_of W R (gCons (gVar 1) gNil)) (gVar 5)))) (gRet (gC (.bl true))) gSkip) gSkip)))
    (gRet (gC (.bl false)))))
def g_are_overlapping (W : WD) (R : Er → Prop) : GS :=
  (gRet (gOr (gBin eqD (gVar 0) (gVar 1)) (gNot (gBlt anyD (gCons (gFrz (gLc (gIter (gBin addD (gSl slD (gVar 0) (gPart (gC (.int 1))) gNoPart) (gSl slD (gVar 1) (gPart (gC (.int 1))) gNoPart))) (ggName 2) gYes (gCall sp_is_parted W (fun _ => False) (gCons (gVar 0) (gCons (gVar 1) (gCons (gVar 2) gNil)))) [2])) gNil)))))
def g_do_overlap (W : WD) (R : Er → Prop) : GS :=
  (gSeq (gFor (gIter (gTup (gCons (gVar 0) (gCons (gVar 1) gNil)))) (ggName 2) (gIfS (gNotT (gTru (gCall sp_is_tile_row W R (gCons (gVar 2) gNil)))) (gRaise "BadTile" "thing" (gVar 2) R) gSkip))
    (gRet (gCall sp_are_overlapping W R (gCons (gVar 0) (gCons (gVar 1) gNil)))))
def g__law_is_pair_right (W : WD) (R : Er → Prop) : GS :=
  (gSeq (gSet 3 (gTup (gCons (gCall sp__law_do_overlap W R (gCons (gVar 1) (gCons (gVar 2) gNil))) (gCons (gBin eqD (gCall sp__law_meeting W R (gCons (gVar 1) (gCons (gVar 2) gNil))) (gC (.int 1))) gNil))))
    (gSeq (gSetL 4 (gLst (gCons (gTup (gCons (gCall sp_do_overlap W R (gCons (gVar 1) (gCons (gVar 2) gNil))) (gCons (gCall sp_does_fit W R (gCons (gVar 1) (gCons (gVar 2) gNil))) gNil))) gNil)))
    (gSeq (gApp 4 (gTup (gCons (gCallK sp_do_overlap 0 2 [1, 0] W R gNil (gCons (gVar 1) (gCons (gVar 2) gNil))) (gCons (gCallK sp_does_fit 0 2 [1, 0] W R gNil (gCons (gVar 1) (gCons (gVar 2) gNil))) gNil))))
    (gSeq (gIfS (gOrT (gB (gBin neD (gBlt reprB (gCons (gVarB 4) gNil)) (gBlt reprB (gCons (gBin mulD (gFrz (gLst (gCons (gVar 3) gNil))) (gC (.int 2))) gNil)))) (gB (gBin eqD (gVar 3) (gTup (gCons (gC (.bl true)) (gCons (gC (.bl true)) gNil)))))) (gRet (gC (.bl false))) gSkip)
    (gRet (gOr (gBin gtD (gCall sp__law_draw W R (gCons (gVar 0) (gCons (gC (.int 8)) gNil))) (gC (.int 0))) (gBin neD (gCall sp__law_is_parted W R (gCons (gVar 1) (gCons (gVar 2) gNil))) (gBin ixD (gVar 3) (gC (.int 0))))))))))
def g__law_is_refusal_right (W : WD) (R : Er → Prop) : GS :=
  (gSeq (gSet 3 (gIf (gB (gBin gtD (gCall sp__law_draw W R (gCons (gVar 0) (gCons (gC (.int 3)) gNil))) (gC (.int 0)))) (gCall sp__law_bent_tile W R (gCons (gVar 0) (gCons (gVar 1) gNil))) (gVar 1)))
    (gSeq (gSet 4 (gIf (gB (gBin gtD (gCall sp__law_draw W R (gCons (gVar 0) (gCons (gC (.int 3)) gNil))) (gC (.int 0)))) (gCall sp__law_bent_tile W R (gCons (gVar 0) (gCons (gVar 2) gNil))) (gVar 2)))
    (gSeq (gPar [5, 6] (gCons (gFrz (gLc (gIter (gTup (gCons (gVar 3) (gCons (gVar 4) gNil)))) (ggName 9) (gNotT (gTru (gCall sp__law_is_tile W (fun _ => False) (gCons (gVar 9) gNil)))) (gVar 9) [9])) (gCons (gBlt reprB (gCons (gTup (gCons (gVar 3) (gCons (gVar 4) gNil))) gNil)) gNil)))
    (gSeq (gSet 7 (gLam sp__law_bad W (fun R => (gCall sp_do_overlap W R (gCons (gVar 3) (gCons (gVar 4) gNil))))))
    (gSeq (gSet 8 (gIf (gB (gBin neE (gVar 5) (gFrz (gLst gNil)))) (gTup (gCons (gC (.str "BadTile")) (gCons (gBin ixD (gVar 5) (gC (.int 0))) gNil))) (gTup (gCons (gC (.str "returned")) (gCons (gCall sp__law_do_overlap W R (gCons (gVar 3) (gCons (gVar 4) gNil))) gNil)))))
    (gRet (gAnd (gBin eqD (gBlt reprB (gCons (gVar 7) gNil)) (gBlt reprB (gCons (gVar 8) gNil))) (gBin eqD (gBlt reprB (gCons (gTup (gCons (gVar 3) (gCons (gVar 4) gNil))) gNil)) (gVar 6)))))))))
def g_law (W : WD) (R : Er → Prop) : GS :=
  (gSeq (gSet 2 (gCall sp__law_any_tile W R (gCons (gVar 1) gNil)))
    (gSeq (gIfS (gB (gBin neD (gBlt reprB (gCons (gTup (gCons (gCall sp_do_overlap W R (gCons (gVar 2) (gCons (gVar 2) gNil))) (gCons (gCall sp_does_fit W R (gCons (gVar 2) (gCons (gVar 2) gNil))) gNil))) gNil)) (gC (.str "(True, False)")))) (gRet (gC (.bl false))) gSkip)
    (gSeq (gFor (gRng1 (gCons (gCall sp__law_pick W R (gCons (gVar 1) (gCons (gFrz (gLst (gCons (gC (.int 6)) (gCons (gC (.int 4)) (gCons (gC (.int 9)) gNil))))) gNil))) gNil)) (ggName 3) (gSeq (gSet 7 (gIf (gB (gBin gtD (gCall sp__law_draw W R (gCons (gVar 1) (gCons (gC (.int 8)) gNil))) (gC (.int 0)))) (gCall sp__law_near W R (gCons (gVar 1) (gCons (gVar 2) gNil))) (gCall sp__law_any_tile W R (gCons (gVar 1) gNil))))
    (gSeq (gIfS (gOrT (gNotT (gTru (gCall sp__law_is_pair_right W R (gCons (gVar 1) (gCons (gVar 2) (gCons (gVar 7) gNil)))))) (gNotT (gTru (gCall sp__law_is_refusal_right W R (gCons (gVar 1) (gCons (gVar 2) (gCons (gVar 7) gNil))))))) (gRet (gC (.bl false))) gSkip)
    (gSet 2 (gCall sp__law_pick W R (gCons (gVar 1) (gCons (gFrz (gLst (gCons (gVar 2) (gCons (gVar 7) gNil)))) gNil)))))))
    (gSeq (gSetT [4, 5, 6] (gCall sp__law_pick W R (gCons (gVar 1) (gCons (gCall sp__law_marked W R (gCons (gVar 2) gNil)) gNil))))
    (gSeq (gFor (gIter (gBin addD (gCall sp__law_choices W R (gCons (gVar 4) (gCons (gNot (gVar 6)) gNil))) (gCall sp__law_choices W R (gCons (gVar 4) (gCons (gVar 6) gNil))))) (ggName 7) (gIfS (gNotT (gTru (gCall sp__law_is_pair_right W R (gCons (gVar 1) (gCons (gVar 2) (gCons (gVar 7) gNil)))))) (gRet (gC (.bl false))) gSkip))
    (gRet (gC (.bl true))))))))
local macro_rules | `(tactic| decreasing_trivial_pre_omega) => `(tactic| ((first | refine Exists.intro _ (And.intro rfl ?_) | refine And.intro rfl ?_ | refine And.intro (of_decide_eq_true rfl) ?_ | refine Exists.intro _ (Exists.intro _ (And.intro rfl (And.intro rfl ?_))) | refine Exists.intro _ (Exists.intro _ (Exists.intro _ (And.intro rfl (And.intro rfl (And.intro rfl ?_))))) | refine Exists.intro _ (Exists.intro _ (And.intro rfl ?_)) | refine Exists.intro _ (Exists.intro _ (Exists.intro _ (And.intro rfl ?_))) | refine Exists.intro _ (Exists.intro _ (Exists.intro _ (Exists.intro _ (And.intro rfl ?_))))) <;> (conv => whnf)))
theorem len_is_integer : ∀ W ds Q R, sp_is_integer W ds Q R → ds.length = 1 := by
  rintro W ds Q R ⟨x, rfl, _⟩
  rfl
theorem law_is_integer : ∀ W ds Q R, sp_is_integer W ds Q R → g_is_integer W R (endsD Q) (startD 1 ds) := by
  rintro W ds Q R ⟨x, rfl, h, q⟩
  simp [g_is_integer, startD, isiX, h, show knownT "int" = true by decide, show knownT "bool" = true by decide]
  cases x <;> simp_all [tyD, isiB, isTb, isI]
theorem len_normal : ∀ W ds Q R, sp_normal W ds Q R → ds.length = 3 := by
  rintro W ds Q R ⟨a, b, d, rfl, _⟩
  rfl
theorem law_normal : ∀ W ds Q R, sp_normal W ds Q R → g_normal W R (endsD Q) (startD 4 ds) := by
  rintro W ds Q R ⟨a, b, d, rfl, hd, h0, q⟩
  have hn := cdv_ne (a := a) (b := b) h0
  have hs : (cdv a b d).natAbs.log2 < 9000 := Nat.lt_of_le_of_lt (cdv_sz (a := a) (b := b) hd h0).log (by decide)
  have pp : ∀ i, DivPl i (cdv a b d) := fun i => .inl hs
  unfold red cdv at q
  unfold cdv at hn pp
  by_cases h : d < 0
  · rw [if_pos h] at q hn pp
    simp [g_normal, startD, endsD, gcdD, h]
    exact ⟨by simpa using hn, by simpa using pp a, by simpa using hn, by simpa using pp b, by simpa using hn, by simpa using pp d, by simpa using q⟩
  · rw [if_neg h] at q hn pp
    simp [g_normal, startD, endsD, gcdD, h]
    exact ⟨by simpa using hn, by simpa using pp a, by simpa using hn, by simpa using pp b, by simpa using hn, by simpa using pp d, by simpa using q⟩
theorem len_pair_sign : ∀ W ds Q R, sp_pair_sign W ds Q R → ds.length = 2 := by
  rintro W ds Q R ⟨a, b, rfl, _⟩
  rfl
theorem law_pair_sign : ∀ W ds Q R, sp_pair_sign W ds Q R → g_pair_sign W R (endsD Q) (startD 4 ds) := by
  rintro W ds Q R ⟨a, b, rfl, ha, hb, q⟩
  obtain ⟨m1, m2, m3, m4⟩ := pair_sz ha hb
  simp [g_pair_sign, startD, m1, m2, m3, m4]
  unfold psg at q
  generalize 2 * a + b = x at q ⊢
  generalize 5 * b * b = y at q ⊢
  generalize x * x = z at q ⊢
  repeat' split
  all_goals simp_all
  all_goals first | omega | (split at q <;> first | exact q | omega) | skip
theorem len_negative : ∀ W ds Q R, sp_negative W ds Q R → ds.length = 1 := by
  rintro W ds Q R ⟨a, b, m, rfl, _⟩
  rfl
theorem law_negative : ∀ W ds Q R, sp_negative W ds Q R → g_negative W R (endsD Q) (startD 1 ds) := by
  rintro W ds Q R ⟨a, b, m, rfl, q⟩
  simp [g_negative, startD, q]
theorem len_raised : ∀ W ds Q R, sp_raised W ds Q R → ds.length = 2 := by
  rintro W ds Q R ⟨f, j, rfl, _⟩
  rfl
theorem law_raised : ∀ W ds Q R, sp_raised W ds Q R → g_raised W R (endsD Q) (startD 3 ds) := by
  rintro W ds Q R ⟨f, j, rfl, h0, h1, q⟩
  rcases five_of h0 h1 with h | h | h | h | h <;> subst h <;> simp [g_raised, startD, tup5, listD, gAugI, ixN, tupleD, iaddD] <;> simpa [tup5, rz] using q
theorem len_is_number : ∀ W ds Q R, sp_is_number W ds Q R → ds.length = 1 := by
  rintro W ds Q R ⟨x, rfl, _⟩
  rfl
theorem law_is_number : ∀ W ds Q R, sp_is_number W ds Q R → g_is_number W R (endsD Q) (startD 1 ds) := by
  rintro W ds Q R ⟨x, rfl, h, q⟩
  simp [g_is_number, startD, isiX, h.1, show knownT "tuple" = true by decide]
  cases x with
  | tup xs =>
    have hx := h.2 xs rfl
    simp [isiB, tyD, isTb, lenD]
    by_cases hl : xs.length = 3
    · obtain ⟨a, b, c, rfl⟩ := len3 hl
      simp at hx
      simp
      refine ⟨a, rfl, hx.1, ?_⟩
      cases h1 : isI a
      · simpa [isNum, h1] using q
      · simp
        refine ⟨b, rfl, hx.2.1, ?_⟩
        cases h2 : isI b
        · simpa [isNum, h1, h2] using q
        · simp
          refine ⟨c, rfl, hx.2.2, ?_⟩
          cases h3 : isI c
          · simpa [isNum, h1, h2, h3] using q
          · obtain ⟨i, rfl⟩ := isI_n h3
            have en : isNum (.tup [a, b, .int i]) = decide (1 ≤ i) := by
              show (isI a && isI b && true && decide (1 ≤ i)) = _
              rw [h1, h2]
              rfl
            rw [en] at q
            simpa [geD, isI] using q
    · have hl2 : ¬ ((xs.length : Int) = 3) := by omega
      rw [num_len hl] at q
      simpa [hl, hl2] using q
  | _ => simpa [isiB, tyD, isTb, isNum] using q
theorem len_sign_of : ∀ W ds Q R, sp_sign_of W ds Q R → ds.length = 1 := by
  rintro W ds Q R ⟨a, b, m, rfl, _⟩
  rfl
theorem law_sign_of : ∀ W ds Q R, sp_sign_of W ds Q R → g_sign_of W R (endsD Q) (startD 1 ds) := by
  rintro W ds Q R ⟨a, b, m, rfl, ha, hb, q⟩
  simp [g_sign_of, startD]
  exact ⟨a, b, rfl, ha, hb, q⟩
theorem len_compared : ∀ W ds Q R, sp_compared W ds Q R → ds.length = 2 := by
  rintro W ds Q R ⟨N, a, b, m, c, d, n, rfl, _⟩
  rfl
theorem law_compared : ∀ W ds Q R, sp_compared W ds Q R → g_compared W R (endsD Q) (startD 2 ds) := by
  rintro W ds Q R ⟨N, a, b, m, c, d, n, rfl, h, k, hN, q⟩
  have e : N + N < 1000000 := by omega
  have m1 : MulOk a n := h.1.ok k.2.2.1 e
  have m2 : MulOk c m := k.1.ok h.2.2.1 e
  have m3 : MulOk b n := h.2.1.ok k.2.2.1 e
  have m4 : MulOk d m := k.2.1.ok h.2.2.1 e
  simp [g_compared, startD, m1, m2, m3, m4]
  exact ⟨_, _, rfl, ((h.1.mul k.2.2.1).sub (k.1.mul h.2.2.1)).mono (by omega), ((h.2.1.mul k.2.2.1).sub (k.2.1.mul h.2.2.1)).mono (by omega), q⟩
theorem len_added : ∀ W ds Q R, sp_added W ds Q R → ds.length = 2 := by
  rintro W ds Q R ⟨n, m, a, b, d, c, e, f, rfl, _⟩
  rfl
theorem law_added : ∀ W ds Q R, sp_added W ds Q R → g_added W R (endsD Q) (startD 3 ds) := by
  rintro W ds Q R ⟨n, m, a, b, d, c, e, f, rfl, h, k, l, sd, sf, q⟩
  obtain ⟨o1, o2, o3, o4, o5, _⟩ := h.ok k (by omega)
  have z4 := (add_sz h k).2.2.2
  simp [g_added, startD, o1, o2, o3, o4, o5]
  exact ⟨_, _, _, rfl, (sd.mul sf).mono (by decide), by omega, q⟩
theorem len_is_direction : ∀ W ds Q R, sp_is_direction W ds Q R → ds.length = 1 := by
  rintro W ds Q R ⟨x, rfl, _⟩
  rfl
theorem law_is_direction : ∀ W ds Q R, sp_is_direction W ds Q R → g_is_direction W R (endsD Q) (startD 1 ds) := by
  rintro W ds Q R ⟨x, rfl, h, q⟩
  simp [g_is_direction, startD]
  refine ⟨x, rfl, h, ?_⟩
  cases x <;> simp_all [isI, truthD, isDir, leD]
  split <;> simp_all
theorem len_is_five : ∀ W ds Q R, sp_is_five W ds Q R → ds.length = 1 := by
  rintro W ds Q R ⟨x, rfl, _⟩
  rfl
theorem law_is_five : ∀ W ds Q R, sp_is_five W ds Q R → g_is_five W R (endsD Q) (startD 2 ds) := by
  rintro W ds Q R ⟨x, rfl, h, q⟩
  simp [g_is_five, startD, isiX, h.1, show knownT "tuple" = true by decide]
  cases x with
  | tup xs =>
    have hx := h.2 xs rfl
    simp [isiB, tyD, isTb, lenD]
    by_cases hl : xs.length = 5
    · simp [hl]
      refine all_lcP _ isi_hs (by simp) xs [] hx (by simp [hl]) ?_
      simp [allD, bls_map]
      simpa [isFive, hl] using q
    · have hl2 : ¬ ((xs.length : Int) = 5) := by omega
      have hl3 : ((xs.length : Int) == 5) = false := beq_eq_false_iff_ne.mpr hl2
      simpa [isFive, hl, hl2, hl3] using q
  | _ => simpa [isiB, tyD, isTb, isFive] using q
theorem len__law_pick : ∀ W ds Q R, sp__law_pick W ds Q R → ds.length = 2 := by
  rintro W ds Q R ⟨d, l, xs, _, rfl | rfl, _⟩ <;> rfl
theorem law__law_pick : ∀ W ds Q R, sp__law_pick W ds Q R → g__law_pick W R (endsD Q) (startD 2 ds) := by
  rintro W ds Q R ⟨d, l, xs, rfl, rfl | rfl, h1, h2, q⟩
  all_goals
    simp [g__law_pick, startD, lenD]
    refine ⟨d, l, _, rfl, rfl, by omega, by exact_mod_cast h2, fun r hr0 hr1 => ?_⟩
    have hr : r.toNat < xs.length := by omega
    refine ⟨xs[r.toNat], ?_, q _ (List.getElem_mem hr)⟩
    simp [atI, ixN, hr0, hr1, hr]
theorem len_taken : ∀ W ds Q R, sp_taken W ds Q R → ds.length = 2 := by
  rintro W ds Q R ⟨n, m, a, b, d, c, e, f, rfl, _⟩
  rfl
theorem law_taken : ∀ W ds Q R, sp_taken W ds Q R → g_taken W R (endsD Q) (startD 2 ds) := by
  rintro W ds Q R ⟨n, m, a, b, d, c, e, f, rfl, h, k, l, sd, sf, q⟩
  simp [g_taken, startD]
  exact ⟨c, e, f, rfl, n, m, a, b, d, -c, -e, f, rfl, h, k.neg, l, sd, sf, q⟩
theorem len_is_corner_five : ∀ W ds Q R, sp_is_corner_five W ds Q R → ds.length = 1 := by
  rintro W ds Q R ⟨x, rfl, _⟩
  rfl
theorem law_is_corner_five : ∀ W ds Q R, sp_is_corner_five W ds Q R → g_is_corner_five W R (endsD Q) (startD 1 ds) := by
  rintro W ds Q R ⟨x, rfl, h, q⟩
  simp [g_is_corner_five, startD]
  refine ⟨x, rfl, h, ?_⟩
  cases hf : isFive x
  · rw [cor_no hf] at q
    simpa [hf] using q
  · obtain ⟨xs, rfl, hl, ha⟩ := five_xs hf
    rw [cor_eq hl ha] at q
    simp [sumD, ints_of ha, leD]
    by_cases hb : 1 ≤ (xs.map nOf).sum ∧ (xs.map nOf).sum ≤ 4
    · rw [decide_eq_true hb] at q
      simpa [hb.1, hb.2] using q
    · rw [decide_eq_false hb] at q
      split
      · rw [decide_eq_false (by omega)]; exact q
      · exact q
theorem len_need_numbers : ∀ W ds Q R, sp_need_numbers W ds Q R → ds.length = 1 := by
  rintro W ds Q R ⟨xs, rfl, _⟩
  rfl
theorem law_need_numbers : ∀ W ds Q R, sp_need_numbers W ds Q R → g_need_numbers W R (endsD Q) (startD 2 ds) := by
  rintro W ds Q R ⟨xs, rfl, h, q⟩
  unfold g_need_numbers
  conv => whnf
  refine forL_in ?_
  refine forG_inv (P := fun ys σ => (∀ y ∈ ys, ∃ a b m, y = tri a b m ∧ 1 ≤ m) ∧ ∃ v, σ = [.d (.tup xs), v]) ?_ ?_ _ _ ⟨h, _, rfl⟩
  · rintro σ ⟨_, v, rfl⟩
    exact q
  · rintro y ys σ ⟨hy, v, rfl⟩ E' hrt hbk hnx hct
    obtain ⟨a, b, m, rfl, hm⟩ := hy y List.mem_cons_self
    have en : isNum (tri a b m) = true := decide_eq_true hm
    conv => whnf
    refine ⟨_, rfl, tyk1_tri _ _ _, ?_⟩
    rw [en]
    exact hnx _ ⟨fun z hz => hy z (List.mem_cons_of_mem _ hz), _, rfl⟩
theorem in_two (i a b : Int) (Q : D → Prop) : inD false (.int i) (.tup [.int a, .int b]) Q = Q (.bl (decide (i = a ∨ i = b))) := by
  have e : inb (.int i) [.int a, .int b] = decide (i = a ∨ i = b) := by
    have e1 : eqb (.int a) (.int i) = (a == i) := rfl
    have e2 : eqb (.int b) (.int i) = (b == i) := rfl
    simp only [inb, List.any_cons, List.any_nil, Bool.or_false, e1, e2]
    by_cases h1 : i = a
    · subst h1; simp
    · by_cases h2 : i = b
      · subst h2; simp
      · simp [h1, h2, Ne.symm h1, Ne.symm h2]
  show (_ ∧ _ ∧ Q (.bl (inb (.int i) [.int a, .int b]))) = _
  rw [e]
  simp [pl, pls]
theorem eqD_bb (a b : Bool) (Q : D → Prop) : eqD (.bl a) (.bl b) Q = Q (.bl (a == b)) := by
  show (_ ∧ _ ∧ Q (.bl (eqb (.bl a) (.bl b)))) = _
  have e : eqb (.bl a) (.bl b) = (a == b) := rfl
  rw [e]
  simp [pl]
theorem len_are_near : ∀ W ds Q R, sp_are_near W ds Q R → ds.length = 2 := by
  rintro W ds Q R ⟨a, b, rfl, _⟩
  rfl
theorem law_are_near : ∀ W ds Q R, sp_are_near W ds Q R → g_are_near W R (endsD Q) (startD 2 ds) := by
  rintro W ds Q R ⟨a, b, rfl, q⟩
  simp [g_are_near, startD, in_two]
  simpa [near] using q
theorem len_lies_left : ∀ W ds Q R, sp_lies_left W ds Q R → ds.length = 2 := by
  rintro W ds Q R ⟨f, r, s, n, rfl, _⟩
  rfl
theorem law_lies_left : ∀ W ds Q R, sp_lies_left W ds Q R → g_lies_left W R (endsD Q) (startD 5 ds) := by
  rintro W ds Q R ⟨f, r, s, n, rfl, hn, q⟩
  match n, hn with
  | 0, _ =>
    simp [g_lies_left, startD, in_two, eqD_bb]
    simpa [lleft, near2, eo, ej] using q
  | 1, _ =>
    simp [g_lies_left, startD, in_two, eqD_bb]
    simpa [lleft, near2, eo, ej] using q
  | 2, _ =>
    simp [g_lies_left, startD, in_two, eqD_bb]
    simpa [lleft, near2, eo, ej] using q
  | 3, _ =>
    simp [g_lies_left, startD, in_two, eqD_bb]
    simpa [lleft, near2, eo, ej] using q
theorem mo2 {b : Int} (h0 : 0 ≤ b) (h1 : b ≤ 4) : MulOk 2 b := (show Sz 20 (2 : Int) by decide).ok (Sz.small (by omega) (by omega)) (by decide)
theorem tile_eq (c r s : D) : isTile (.tup [c, r, s]) = (isCor c && (decide (sumN c ≤ 2) && (isDir r && (isDir s && decide (nOf r < nOf s))))) := by
  simp only [isTile, isCor]
  cases isFive c
  · rfl
  · cases r with
    | int r =>
      cases s with
      | int s =>
        rw [Bool.eq_iff_iff]
        simp only [isI, isDir, Bool.true_and, Bool.and_eq_true, decide_eq_true_eq]
        simp only [nOf]
        omega
      | _ => simp [isI, isDir]
    | _ => simp [isI, isDir]
theorem tile_no {xs : List D} (hl : ¬ xs.length = 3) : isTile (.tup xs) = false := by
  unfold isTile
  split
  · rename_i e
    cases e
    simp at hl
  · rfl
theorem len_is_tile_row : ∀ W ds Q R, sp_is_tile_row W ds Q R → ds.length = 1 := by
  rintro W ds Q R ⟨x, rfl, _⟩
  rfl
theorem law_is_tile_row : ∀ W ds Q R, sp_is_tile_row W ds Q R → g_is_tile_row W R (endsD Q) (startD 1 ds) := by
  rintro W ds Q R ⟨x, rfl, h, q⟩
  simp [g_is_tile_row, startD, rp_ty h]
  cases x with
  | tup xs =>
    have hx : ∀ x ∈ xs, rp 63 x = true := by
      simp only [rp, rps_all, List.all_eq_true] at h
      exact h
    simp [isiB, tyD, isTb, lenD]
    by_cases hl : xs.length = 3
    · obtain ⟨c, r, s, rfl⟩ := len3 hl
      rw [tile_eq] at q
      simp
      refine ⟨c, rfl, tyk1_rp (rp_mono _ _ _ (by decide) (hx c (by simp))), ?_⟩
      cases h1 : isCor c
      · simpa [h1] using q
      · simp
        refine sumN_D (cor_five h1) ?_
        rw [h1, Bool.true_and] at q
        simp [leD]
        cases h2 : decide (sumN c ≤ 2)
        · simpa [h2, of_decide_eq_false h2] using q
        · rw [h2, Bool.true_and] at q
          simp [of_decide_eq_true h2]
          refine ⟨r, rfl, tyk_rp (hx r (by simp)), ?_⟩
          cases h3 : isDir r
          · simpa [h3] using q
          · rw [h3, Bool.true_and] at q
            simp
            refine ⟨s, rfl, tyk_rp (hx s (by simp)), ?_⟩
            cases h4 : isDir s
            · simpa [h4] using q
            · rw [h4, Bool.true_and] at q
              obtain ⟨i, rfl, _⟩ := dir_n h3
              obtain ⟨j, rfl, _⟩ := dir_n h4
              have q' : Q (.bl (decide (i < j))) := q
              simpa [ltD] using q'
    · have hl2 : ¬ ((xs.length : Int) = 3) := by omega
      rw [tile_no hl] at q
      simpa [hl, hl2] using q
  | _ => simpa [isiB, tyD, isTb, isTile] using q
theorem sumN_t (f : Int → Int) : sumN (tup5 f) = sum5 f := by
  simp [sumN, tup5, sum5, nOf]
  omega
theorem tile_n {x : D} (h : isTile x = true) : TileD x (fT x) (rT x) (sT x) := by
  unfold isTile at h
  split at h
  · rename_i c r s
    simp only [Bool.and_eq_true, decide_eq_true_eq] at h
    obtain ⟨h1, h2, h3, h4, h5, h6, h7⟩ := h
    obtain ⟨i, rfl⟩ := isI_n h2
    obtain ⟨j, rfl⟩ := isI_n h3
    have e := five_f h1
    refine ⟨?_, ?_, h5, h6, ?_⟩
    · show D.tup [c, .int i, .int j] = .tup [tup5 (fOf c), .int i, .int j]
      rw [← e]
    · show sum5 (fOf c) = 1 ∨ sum5 (fOf c) = 2
      rw [← sumN_t, ← e]
      exact h4
    · exact Int.lt_add_one_iff.mp h7
  · cases h
theorem tile_y {x : D} {f : Int → Int} {r s : Int} (h : TileD x f r s) : isTile x = true := by
  obtain ⟨rfl, k, r0, rs, s4⟩ := h
  have h1 : isFive (tup5 f) = true := rfl
  show (isFive (tup5 f) && (true && (true && decide ((sumN (tup5 f) = 1 ∨ sumN (tup5 f) = 2) ∧ 0 ≤ r ∧ r < s ∧ s < 5)))) = true
  rw [h1, sumN_t]
  simp
  exact ⟨k, r0, rs, by omega⟩
theorem need_in {W : WD} {x : D} {Q : D → Prop} {R : Er → Prop} (h : rp 64 x = true) (q1 : isTile x = true → Q .non) (q2 : isTile x = false → R ⟨"BadTile", [("thing", x)]⟩) : sp_need_tile W [x] Q R := by
  refine ⟨x, rfl, h, ?_⟩
  cases e : isTile x
  · simpa [onT, e, outT] using q2 e
  · simpa [onT, e, outT] using q1 e
theorem on_no {x d : D} {Q : D → Prop} {R : Er → Prop} (e : isTile x = false) (o : outT (onT x d) Q R) : R ⟨"BadTile", [("thing", x)]⟩ := by
  simpa [onT, e, outT] using o
theorem on_yes {x d : D} {Q : D → Prop} {R : Er → Prop} (e : isTile x = true) (o : outT (onT x d) Q R) : Q d := by
  simpa [onT, e, outT] using o
theorem len1 {o : D → Ot} : ∀ W ds Q R, sp1 o W ds Q R → ds.length = 1 := by
  rintro W ds Q R ⟨x, rfl, _⟩
  rfl
theorem len_need_tile : ∀ W ds Q R, sp_need_tile W ds Q R → ds.length = 1 := len1
theorem law_need_tile : ∀ W ds Q R, sp_need_tile W ds Q R → g_need_tile W R (endsD Q) (startD 1 ds) := by
  rintro W ds Q R ⟨x, rfl, h, o⟩
  simp [g_need_tile, startD]
  refine ⟨x, rfl, h, ?_⟩
  cases e : isTile x
  · simpa using on_no e o
  · simpa using on_yes e o
theorem len_corners_of : ∀ W ds Q R, sp_corners_of W ds Q R → ds.length = 1 := len1
theorem law_corners_of : ∀ W ds Q R, sp_corners_of W ds Q R → g_corners_of W R (endsD Q) (startD 5 ds) := by
  rintro W ds Q R ⟨x, rfl, h, o⟩
  simp [g_corners_of, startD]
  refine need_in h (fun e => ?_) fun e => on_no e o
  have q := on_yes e o
  obtain ⟨ex, k, r0, rs, s4⟩ := tile_n e
  generalize fT x = f at *
  generalize rT x = r at *
  generalize sT x = s at *
  subst ex
  simp
  refine ⟨f, r, rfl, r0, by omega, ?_⟩
  simp
  refine ⟨f, s, rfl, by omega, s4, ?_⟩
  refine ⟨rz f r 1, s, rfl, by omega, s4, ?_⟩
  exact q
theorem len_edges_of : ∀ W ds Q R, sp_edges_of W ds Q R → ds.length = 1 := len1
theorem law_edges_of : ∀ W ds Q R, sp_edges_of W ds Q R → g_edges_of W R (endsD Q) (startD 4 ds) := by
  rintro W ds Q R ⟨x, rfl, h, o⟩
  simp [g_edges_of, startD]
  refine need_in h (fun e => ?_) fun e => on_no e o
  have q := on_yes e o
  obtain ⟨ex, k, r0, rs, s4⟩ := tile_n e
  generalize fT x = f at *
  generalize rT x = r at *
  generalize sT x = s at *
  subst ex
  simp
  refine ⟨f, s, rfl, by omega, s4, ?_⟩
  refine ⟨f, r, rfl, r0, by omega, ?_⟩
  exact q
theorem len_is_thick : ∀ W ds Q R, sp_is_thick W ds Q R → ds.length = 1 := len1
theorem law_is_thick : ∀ W ds Q R, sp_is_thick W ds Q R → g_is_thick W R (endsD Q) (startD 1 ds) := by
  rintro W ds Q R ⟨x, rfl, h, o⟩
  simp [g_is_thick, startD]
  refine need_in h (fun e => ?_) fun e => on_no e o
  have q := on_yes e o
  obtain ⟨ex, k, r0, rs, s4⟩ := tile_n e
  generalize fT x = f at *
  generalize rT x = r at *
  generalize sT x = s at *
  subst ex
  simp
  exact ⟨r, s, rfl, q⟩
theorem len_is_low : ∀ W ds Q R, sp_is_low W ds Q R → ds.length = 1 := len1
theorem law_is_low : ∀ W ds Q R, sp_is_low W ds Q R → g_is_low W R (endsD Q) (startD 1 ds) := by
  rintro W ds Q R ⟨x, rfl, h, o⟩
  simp [g_is_low, startD]
  refine need_in h (fun e => ?_) fun e => on_no e o
  have q := on_yes e o
  obtain ⟨ex, k, r0, rs, s4⟩ := tile_n e
  generalize fT x = f at *
  generalize rT x = r at *
  generalize sT x = s at *
  subst ex
  simp
  refine sum5_D ?_
  simpa using q
theorem len_marks_of : ∀ W ds Q R, sp_marks_of W ds Q R → ds.length = 1 := len1
theorem law_marks_of : ∀ W ds Q R, sp_marks_of W ds Q R → g_marks_of W R (endsD Q) (startD 2 ds) := by
  rintro W ds Q R ⟨x, rfl, h, o⟩
  simp [g_marks_of, startD]
  refine ⟨x, rfl, h, ?_⟩
  cases e : isTile x
  · simpa [thickO, onT, e, outT] using on_no e o
  · simp [thickO, onT, e, outT]
    have q := on_yes e o
    have low : ∀ {Q : D → Prop}, Q (.bl (decide (sum5 (fT x) = 1))) → sp_is_low W [x] Q R := fun q => ⟨x, rfl, h, by simpa [lowO, onT, e, outT] using q⟩
    refine low ?_
    simp [eqD_bb]
    unfold marksD mkS inner at q
    generalize near (rT x) (sT x) = nr at *
    by_cases hk : sum5 (fT x) = 1
    · simp [hk] at q ⊢
      cases nr
      · simp at q ⊢
        refine low ?_
        simpa [hk] using q
      · simp at q ⊢
        refine low ?_
        simpa [hk] using q
    · simp [hk] at q ⊢
      cases nr
      · simp at q ⊢
        refine low ?_
        simpa [hk] using q
      · simp at q ⊢
        refine low ?_
        simpa [hk] using q

theorem sm5_iff {f g : Int → Int} : sm5 f g = true ↔ tup5 f = tup5 g := by
  unfold sm5 tup5
  simp
theorem eqb_tup5 (f g : Int → Int) : eqb (tup5 f) (tup5 g) = sm5 f g := by
  have e : eqb (tup5 f) (tup5 g) = ((f 0 == g 0) && ((f 1 == g 1) && ((f 2 == g 2) && ((f 3 == g 3) && ((f 4 == g 4) && true))))) := rfl
  rw [e]
  unfold sm5
  rw [Bool.eq_iff_iff]
  simp
theorem eqb_eg (f g : Int → Int) (j i : Int) : eqb (eg f j) (eg g i) = (sm5 f g && decide (j = i)) := by
  have e : eqb (eg f j) (eg g i) = (eqb (tup5 f) (tup5 g) && ((j == i) && true)) := rfl
  rw [e, eqb_tup5, Bool.and_true]
  rfl
theorem cor_ef {f : Int → Int} {r s : Int} (h : TileD (tl f r s) f r s) {n : Nat} (hn : n ∈ four) : isCor (tup5 (ef f r s n)) = true ∧ 0 ≤ ej r s n ∧ ej r s n ≤ 4 := by
  obtain ⟨_, k, r0, rs, s4⟩ := h
  rw [cor5]
  have e1 := rz_sum (f := f) (j := s) (u := 1) (by omega) s4
  have e2 := rz_sum (f := f) (j := r) (u := 1) r0 (by omega)
  simp only [List.mem_cons, List.not_mem_nil, or_false] at hn
  rcases hn with rfl | rfl | rfl | rfl
  · exact ⟨decide_eq_true (by show 1 ≤ sum5 f ∧ sum5 f ≤ 4; omega), by show 0 ≤ r; omega, by show r ≤ 4; omega⟩
  · exact ⟨decide_eq_true (by show 1 ≤ sum5 f ∧ sum5 f ≤ 4; omega), by show 0 ≤ s; omega, by show s ≤ 4; omega⟩
  · exact ⟨decide_eq_true (by show 1 ≤ sum5 (rz f s 1) ∧ sum5 (rz f s 1) ≤ 4; omega), by show 0 ≤ r; omega, by show r ≤ 4; omega⟩
  · exact ⟨decide_eq_true (by show 1 ≤ sum5 (rz f r 1) ∧ sum5 (rz f r 1) ≤ 4; omega), by show 0 ≤ s; omega, by show s ≤ 4; omega⟩
theorem ix_edges (f : Int → Int) (r s : Int) {n : Nat} (hn : n ∈ four) {Q : D → Prop} (q : Q (eg (ef f r s n) (ej r s n))) : ixD (edgesD f r s) (.int n) Q := by
  simp only [List.mem_cons, List.not_mem_nil, or_false] at hn
  rcases hn with rfl | rfl | rfl | rfl
  · exact ⟨_, rfl, q⟩
  · exact ⟨_, rfl, q⟩
  · exact ⟨_, rfl, q⟩
  · exact ⟨_, rfl, q⟩
theorem pl_eg (f : Int → Int) (j : Int) : pl 64 (eg f j) = true := by simp [eg, tup5, pl, pls]
theorem four_lt {n : Nat} (hn : n ∈ four) : n < 4 := by
  simp only [List.mem_cons, List.not_mem_nil, or_false] at hn
  omega
def fitC (f : Int → Int) (r s : Int) (g : Int → Int) (r' s' : Int) (n m : Nat) : Option D := if meet f r s g r' s' n m = true then some (.bl true) else none
theorem fit_some {f g : Int → Int} {r s r' s' : Int} {v : D} (h : (four.findSome? fun n => four.findSome? (fitC f r s g r' s' n)) = some v) : v = .bl true ∧ fit f r s g r' s' = true := by
  obtain ⟨n, hn, h1⟩ := List.exists_of_findSome?_eq_some h
  obtain ⟨m, hm, h2⟩ := List.exists_of_findSome?_eq_some h1
  unfold fitC at h2
  split at h2
  · rename_i k
    cases h2
    refine ⟨rfl, ?_⟩
    unfold fit
    rw [List.any_eq_true]
    exact ⟨n, hn, List.any_eq_true.mpr ⟨m, hm, k⟩⟩
  · cases h2
theorem fit_none {f g : Int → Int} {r s r' s' : Int} (h : (four.findSome? fun n => four.findSome? (fitC f r s g r' s' n)) = none) : fit f r s g r' s' = false := by
  unfold fit
  rw [List.any_eq_false]
  intro n hn
  rw [Bool.not_eq_true, List.any_eq_false]
  intro m hm
  have h1 := List.findSome?_eq_none_iff.mp h n hn
  have h2 := List.findSome?_eq_none_iff.mp h1 m hm
  unfold fitC at h2
  split at h2
  · cases h2
  · rename_i k
    exact k
theorem neD_bb (a b : Bool) (Q : D → Prop) : neD (.bl a) (.bl b) Q = Q (.bl (a != b)) := by
  show (_ ∧ _ ∧ Q (.bl (!eqb (.bl a) (.bl b)))) = _
  have e : eqb (.bl a) (.bl b) = (a == b) := rfl
  rw [e]
  simp [pl, bne]
theorem ix_marks (k r s : Int) {n : Nat} (hn : n ∈ four) {Q : D → Prop} (q : Q (.str (mkS k r s n))) : ixD (marksD k r s) (.int n) Q := by
  simp only [List.mem_cons, List.not_mem_nil, or_false] at hn
  rcases hn with rfl | rfl | rfl | rfl
  · exact ⟨_, rfl, q⟩
  · exact ⟨_, rfl, q⟩
  · exact ⟨_, rfl, q⟩
  · exact ⟨_, rfl, q⟩
theorem rp_tl (f : Int → Int) (r s : Int) : rp 64 (tl f r s) = true := by simp [tl, tup5, rp, rps]
theorem len_does_fit : ∀ W ds Q R, sp_does_fit W ds Q R → ds.length = 2 := by
  rintro W ds Q R ⟨x, y, rfl, _⟩
  rfl
theorem law_does_fit : ∀ W ds Q R, sp_does_fit W ds Q R → g_does_fit W R (endsD Q) (startD 6 ds) := by
  rintro W ds Q R ⟨x, y, rfl, hx, hy, o⟩
  have edg : ∀ {x : D} {K : D → Prop}, rp 64 x = true → (isTile x = false → R ⟨"BadTile", [("thing", x)]⟩) → (isTile x = true → K (edgesD (fT x) (rT x) (sT x))) → sp_edges_of W [x] K R := fun {x K} hx k1 k2 => by
    refine ⟨x, rfl, hx, ?_⟩
    cases et : isTile x
    · simpa [edgO, onT, et, outT] using k1 et
    · simpa [edgO, onT, et, outT] using k2 et
  unfold g_does_fit
  refine (show gSeq _ _ _ _ from ?_)
  refine edg hx (fun e => by simpa [fitO, e, outT] using o) fun ex => ?_
  refine edg hy (fun e => by simpa [fitO, ex, onT, e, outT] using o) fun ey => ?_
  have q : Q (.bl (fit (fT x) (rT x) (sT x) (fT y) (rT y) (sT y))) := by simpa [fitO, ex, onT, ey, outT] using o
  have hX := tile_n ex
  have hY := tile_n ey
  have mks : ∀ {x : D} {K : D → Prop}, rp 64 x = true → isTile x = true → K (marksD (sum5 (fT x)) (rT x) (sT x)) → sp_marks_of W [x] K R := fun {x K} hx e k => ⟨x, rfl, hx, by simpa [marksO, onT, e, outT] using k⟩
  have mx : ∀ {K : D → Prop}, K (marksD (sum5 (fT x)) (rT x) (sT x)) → sp_marks_of W [x] K R := mks hx ex
  have my : ∀ {K : D → Prop}, K (marksD (sum5 (fT y)) (rT y) (sT y)) → sp_marks_of W [y] K R := mks hy ey
  have exx := hX.e
  have eyy := hY.e
  generalize fT x = f at *
  generalize rT x = r at *
  generalize sT x = s at *
  generalize fT y = g at *
  generalize rT y = r' at *
  generalize sT y = s' at *
  subst exx eyy
  refine ⟨rfl, ?_⟩
  show gSeq _ _ _ [.d (tl f r s), .d (tl g r' s'), .d (edgesD f r s), .d (edgesD g r' s'), .no, .no]
  refine seq_rng (by decide) (by decide) ?_
  refine forG_find (fun n : Nat => .int n) (fun n => four.findSome? (fitC f r s g r' s' n)) (fun σ => ∃ v w, σ = [.d (tl f r s), .d (tl g r' s'), .d (edgesD f r s), .d (edgesD g r' s'), v, w]) four _ ⟨_, _, rfl⟩ (fun v ev => ?_) (fun ev => ?_) ?_
  · obtain ⟨rfl, e⟩ := fit_some ev
    rw [e] at q
    exact q
  · rintro σ ⟨v, w, rfl⟩
    rw [fit_none ev] at q
    exact q
  · rintro n hn σ ⟨v, w, rfl⟩ E' hrt hv hnx hct
    show gFor _ _ _ E' [.d (tl f r s), .d (tl g r' s'), .d (edgesD f r s), .d (edgesD g r' s'), .d (.int n), w]
    refine ⟨4, rfl, by decide, by decide, ?_⟩
    refine forL_in ?_
    refine forG_find (fun n : Nat => .int n) (fitC f r s g r' s' n) (fun σ => ∃ w, σ = [.d (tl f r s), .d (tl g r' s'), .d (edgesD f r s), .d (edgesD g r' s'), .d (.int n), w]) four _ ⟨_, rfl⟩ (fun v ev => ?_) (fun ev => ?_) ?_
    · rw [hrt]
      exact hv v ev
    · rintro σ ⟨w, rfl⟩
      exact hnx ev _ ⟨_, _, rfl⟩
    · rintro m hm σ ⟨w, rfl⟩ E2 hrt2 hv2 hnx2 hct2
      simp
      refine ix_edges f r s hn (ix_edges g r' s' hm ?_)
      refine ⟨pl_eg _ _, pl_eg _ _, ?_⟩
      simp
      have e1 : eqb (eg (ef f r s n) (ej r s n)) (eg (ef g r' s' m) (ej r' s' m)) = same f r s g r' s' n m := eqb_eg _ _ _ _
      rw [e1]
      cases h1 : same f r s g r' s' n m
      · simp
        exact hnx2 (by simp [fitC, meet, h1]) _ ⟨_, rfl⟩
      · simp
        refine ⟨f, r, s, n, rfl, four_lt hn, ?_⟩
        refine ⟨g, r', s', m, rfl, four_lt hm, ?_⟩
        dsimp only
        rw [neD_bb]
        simp
        cases h2 : lleft r s n != lleft r' s' m
        · have h3 : lleft r s n = lleft r' s' m := by simpa using h2
          simp [h3]
          exact hnx2 (by simp [fitC, meet, h1, h2]) _ ⟨_, rfl⟩
        · have h3 : ¬ lleft r s n = lleft r' s' m := by simpa using h2
          simp [h3]
          refine mx (ix_marks _ _ _ hn (my (ix_marks _ _ _ hm ?_)))
          simp
          by_cases h4 : mkS (sum5 f) r s n = mkS (sum5 g) r' s' m
          · simp [h4]
            rw [hrt2]
            exact hv2 _ (by simp [fitC, meet, h1, h2, h4])
          · simp [h4]
            exact hnx2 (by simp [fitC, meet, h1, h2, h4]) _ ⟨_, rfl⟩
theorem len__law_sign : ∀ W ds Q R, sp__law_sign W ds Q R → ds.length = 2 := by
  rintro W ds Q R ⟨a, b, rfl, _⟩
  rfl
theorem law__law_sign : ∀ W ds Q R, sp__law_sign W ds Q R → g__law_sign W R (endsD Q) (startD 4 ds) := by
  rintro W ds Q R ⟨a, b, rfl, ha, hb, q⟩
  obtain ⟨m1, m2, m3, m4⟩ := pair_sz ha hb
  have z2 : Sz 2 (2 : Int) := by decide
  have zx : Sz 200003 (2 * a + b) := ((z2.mul ha).mono (by decide : 2 + 200000 ≤ 200002)).add (hb.mono (by decide))
  have m5 : ND.MulOk (2 * a + b) b := zx.ok hb (by decide)
  unfold psg at q
  unfold g__law_sign
  conv => whnf
  refine ⟨m1, ?_⟩
  conv => whnf
  refine ⟨m5, ?_⟩
  have c1 : (2 * a + b) * b ≥ 0 ↔ (0 ≤ 2 * a + b ∧ 0 ≤ b) ∨ (2 * a + b ≤ 0 ∧ b ≤ 0) := by
    generalize 2 * a + b = x
    constructor
    · intro h
      rcases Int.lt_or_le x 0 with hx | hx <;> rcases Int.lt_or_le b 0 with hb | hb
      · exact .inr ⟨by omega, by omega⟩
      · by_cases z : b = 0
        · exact .inr ⟨by omega, by omega⟩
        · have := Int.mul_neg_of_neg_of_pos hx (show 0 < b by omega)
          omega
      · by_cases z : x = 0
        · exact .inr ⟨by omega, by omega⟩
        · have := Int.mul_neg_of_pos_of_neg (show 0 < x by omega) hb
          omega
      · exact .inl ⟨hx, hb⟩
    · rintro (⟨h1, h2⟩ | ⟨h1, h2⟩)
      · exact Int.mul_nonneg h1 h2
      · exact Int.mul_nonneg_of_nonpos_of_nonpos h1 h2
  have tie := fun h => no_tie (x := 2 * a + b) (b := b) h
  generalize 2 * a + b = x at *
  conv => whnf
  by_cases h : x * b ≥ 0
  · rw [decide_eq_true h]
    conv => whnf
    have h := c1.mp h
    rcases h with ⟨h1, h2⟩ | ⟨h1, h2⟩
    · rw [if_pos ⟨h1, h2⟩] at q
      by_cases z : 0 < x ∨ 0 < b
      · rw [if_pos z] at q
        rw [decide_eq_true (show x + b > 0 by omega), decide_eq_false (show ¬ x + b < 0 by omega)]
        exact q
      · rw [if_neg z] at q
        rw [decide_eq_false (show ¬ x + b > 0 by omega), decide_eq_false (show ¬ x + b < 0 by omega)]
        exact q
    · by_cases z : 0 ≤ x ∧ 0 ≤ b
      · rw [if_pos z, if_neg (by omega)] at q
        rw [decide_eq_false (show ¬ x + b > 0 by omega), decide_eq_false (show ¬ x + b < 0 by omega)]
        exact q
      · rw [if_neg z, if_pos ⟨h1, h2⟩] at q
        rw [decide_eq_false (show ¬ x + b > 0 by omega), decide_eq_true (show x + b < 0 by omega)]
        exact q
  · rw [decide_eq_false h]
    have h := fun z => h (c1.mpr z)
    rw [if_neg (by omega), if_neg (by omega)] at q
    conv => whnf
    refine ⟨m2, ?_⟩
    conv => whnf
    refine ⟨m3, ?_⟩
    conv => whnf
    refine ⟨m4, ?_⟩
    generalize 5 * b * b = y at *
    generalize x * x = z at *
    conv => whnf
    by_cases g : z > y
    · rw [decide_eq_true g]
      conv => whnf
      by_cases k : 0 < x
      · rw [if_pos k, if_pos g] at q
        rw [decide_eq_true k]
        exact q
      · rw [if_neg k, if_pos g] at q
        rw [decide_eq_false k]
        exact q
    · rw [decide_eq_false g]
      conv => whnf
      by_cases k : 0 < x
      · rw [if_pos k, if_neg (by omega)] at q
        rw [decide_eq_false (show ¬ 0 < b by omega)]
        exact q
      · rw [if_neg k, if_neg (by omega)] at q
        rw [decide_eq_true (show 0 < b by omega)]
        exact q
theorem len_beside : ∀ W ds Q R, sp_beside W ds Q R → ds.length = 2 := by
  rintro W ds Q R ⟨f, d, rfl, _⟩
  rfl
theorem ix_t5 {f : Int → Int} {k : Int} (k0 : 0 ≤ k) (k4 : k ≤ 4) {Q : D → Prop} (q : Q (.int (f k))) : ixD (tup5 f) (.int k) Q := by
  rcases five_of k0 k4 with h | h | h | h | h <;> subst h <;> exact ⟨_, rfl, q⟩
theorem law_beside : ∀ W ds Q R, sp_beside W ds Q R → g_beside W R (endsD Q) (startD 4 ds) := by
  rintro W ds Q R ⟨f, d, rfl, d0, d4, hf, q⟩
  have z := fun i h0 h4 => hf i h0 h4
  have m5 : ∀ k : Int, 0 ≤ k % 5 ∧ k % 5 ≤ 4 := fun k => by omega
  have z2 : Sz 2 (2 : Int) := by decide
  unfold g_beside
  conv => whnf
  refine ⟨by omega, ?_⟩
  conv => whnf
  refine ix_t5 (m5 _).1 (m5 _).2 ?_
  conv => whnf
  refine ⟨by omega, ?_⟩
  conv => whnf
  refine ix_t5 (m5 _).1 (m5 _).2 ?_
  conv => whnf
  refine ⟨by omega, ?_⟩
  conv => whnf
  refine ix_t5 (m5 _).1 (m5 _).2 ?_
  conv => whnf
  refine ⟨by omega, ?_⟩
  conv => whnf
  refine ix_t5 (m5 _).1 (m5 _).2 ?_
  conv => whnf
  refine ⟨z2.ok ((z _ (m5 _).1 (m5 _).2).sub (z _ (m5 _).1 (m5 _).2)) (by decide), ?_⟩
  conv => whnf
  refine ⟨z2.ok ((z _ (m5 _).1 (m5 _).2).sub (z _ (m5 _).1 (m5 _).2)) (by decide), ?_⟩
  conv => whnf
  refine ⟨(show 3 ≤ sizeLine by decide), ?_⟩
  exact q
theorem len_greatest : ∀ W ds Q R, sp_greatest W ds Q R → ds.length = 1 := by
  rintro W ds Q R ⟨L, m, rfl, _⟩
  rfl
theorem len_least : ∀ W ds Q R, sp_least W ds Q R → ds.length = 1 := by
  rintro W ds Q R ⟨L, m, rfl, _⟩
  rfl
theorem law_greatest : ∀ W ds Q R, sp_greatest W ds Q R → g_greatest W R (endsD Q) (startD 3 ds) := by
  rintro W ds Q R ⟨L, m, rfl, hm, sz, mx, q⟩
  have eqm : ∀ x ∈ L, (0 ≤ psg (x.1 - m.1) (x.2 - m.2)) → x = m := fun x hx h => by
    have h2 := mx x hx
    have e := psg_neg (x.1 - m.1) (x.2 - m.2)
    rw [show -(x.1 - m.1) = m.1 - x.1 by omega, show -(x.2 - m.2) = m.2 - x.2 by omega] at e
    obtain ⟨a, b⟩ := psg_zero (show psg (x.1 - m.1) (x.2 - m.2) = 0 by omega)
    exact Prod.ext (by omega) (by omega)
  unfold g_greatest
  conv => whnf
  refine forL_in ?_
  refine forG_inv (fun ds σ => ∃ K, ds = K.map t1 ∧ (∀ x ∈ K, x ∈ L) ∧ ((∃ v, σ = [.d (.lst (L.map t1)), .d .non, v] ∧ m ∈ K) ∨ ∃ x v, x ∈ L ∧ σ = [.d (.lst (L.map t1)), .d (t1 x), v] ∧ (x = m ∨ m ∈ K))) ?_ ?_ _ _ ⟨L, rfl, fun _ h => h, .inl ⟨_, rfl, hm⟩⟩
  · rintro σ ⟨K, eK, _, ⟨v, rfl, k⟩ | ⟨x, v, hx, rfl, k⟩⟩
    · rw [List.map_eq_nil_iff.mp eK.symm] at k
      cases k
    · rcases k with rfl | k
      · conv => whnf
        exact q
      · rw [List.map_eq_nil_iff.mp eK.symm] at k
        cases k
  · rintro z zs σ ⟨K, eK, kL, st⟩ E' hrt hbk hnx hct
    obtain ⟨y, K', rfl⟩ : ∃ y K', K = y :: K' := by
      cases K with
      | nil => cases eK
      | cons y K' => exact ⟨y, K', rfl⟩
    obtain ⟨rfl, rfl⟩ := List.cons.inj eK
    have yL := kL y List.mem_cons_self
    have kL' := fun x (h : x ∈ K') => kL x (List.mem_cons_of_mem _ h)
    have ny : Num 1000 y.1 y.2 1 := ⟨(sz y yL).1, (sz y yL).2, by decide, by decide⟩
    rcases st with ⟨v, rfl, k⟩ | ⟨x, v, hx, rfl, k⟩
    · conv => whnf
      refine hnx _ ⟨K', rfl, kL', .inr ⟨y, _, yL, rfl, ?_⟩⟩
      rcases List.mem_cons.mp k with k | k
      · exact .inl k.symm
      · exact .inr k
    · have nx : Num 1000 x.1 x.2 1 := ⟨(sz x hx).1, (sz x hx).2, by decide, by decide⟩
      conv => whnf
      refine ⟨1000, _, _, _, _, _, _, rfl, ny, nx, by decide, ?_⟩
      rw [Int.mul_one, Int.mul_one, Int.mul_one, Int.mul_one]
      conv => whnf
      by_cases c : 0 < psg (y.1 - x.1) (y.2 - x.2)
      · rw [show decide (psg (y.1 - x.1) (y.2 - x.2) > 0) = true from decide_eq_true c]
        conv => whnf
        refine hnx _ ⟨K', rfl, kL', .inr ⟨y, _, yL, rfl, ?_⟩⟩
        rcases k with rfl | k
        · have := mx y yL
          have e := psg_neg (y.1 - x.1) (y.2 - x.2)
          rw [show -(y.1 - x.1) = x.1 - y.1 by omega, show -(y.2 - x.2) = x.2 - y.2 by omega] at e
          omega
        · rcases List.mem_cons.mp k with k | k
          · exact .inl k.symm
          · exact .inr k
      · rw [show decide (psg (y.1 - x.1) (y.2 - x.2) > 0) = false from decide_eq_false c]
        conv => whnf
        refine hnx _ ⟨K', rfl, kL', .inr ⟨x, _, hx, rfl, ?_⟩⟩
        rcases k with rfl | k
        · exact .inl rfl
        · rcases List.mem_cons.mp k with k | k
          · subst k
            refine .inl (eqm x hx ?_)
            have e := psg_neg (m.1 - x.1) (m.2 - x.2)
            rw [show -(m.1 - x.1) = x.1 - m.1 by omega, show -(m.2 - x.2) = x.2 - m.2 by omega] at e
            omega
          · exact .inr k
theorem law_least : ∀ W ds Q R, sp_least W ds Q R → g_least W R (endsD Q) (startD 3 ds) := by
  rintro W ds Q R ⟨L, m, rfl, hm, sz, mx, q⟩
  have eqm : ∀ x ∈ L, (psg (x.1 - m.1) (x.2 - m.2) ≤ 0) → x = m := fun x hx h => by
    have h2 := mx x hx
    have e := psg_neg (x.1 - m.1) (x.2 - m.2)
    rw [show -(x.1 - m.1) = m.1 - x.1 by omega, show -(x.2 - m.2) = m.2 - x.2 by omega] at e
    obtain ⟨a, b⟩ := psg_zero (show psg (x.1 - m.1) (x.2 - m.2) = 0 by omega)
    exact Prod.ext (by omega) (by omega)
  unfold g_least
  conv => whnf
  refine forL_in ?_
  refine forG_inv (fun ds σ => ∃ K, ds = K.map t1 ∧ (∀ x ∈ K, x ∈ L) ∧ ((∃ v, σ = [.d (.lst (L.map t1)), .d .non, v] ∧ m ∈ K) ∨ ∃ x v, x ∈ L ∧ σ = [.d (.lst (L.map t1)), .d (t1 x), v] ∧ (x = m ∨ m ∈ K))) ?_ ?_ _ _ ⟨L, rfl, fun _ h => h, .inl ⟨_, rfl, hm⟩⟩
  · rintro σ ⟨K, eK, _, ⟨v, rfl, k⟩ | ⟨x, v, hx, rfl, k⟩⟩
    · rw [List.map_eq_nil_iff.mp eK.symm] at k
      cases k
    · rcases k with rfl | k
      · conv => whnf
        exact q
      · rw [List.map_eq_nil_iff.mp eK.symm] at k
        cases k
  · rintro z zs σ ⟨K, eK, kL, st⟩ E' hrt hbk hnx hct
    obtain ⟨y, K', rfl⟩ : ∃ y K', K = y :: K' := by
      cases K with
      | nil => cases eK
      | cons y K' => exact ⟨y, K', rfl⟩
    obtain ⟨rfl, rfl⟩ := List.cons.inj eK
    have yL := kL y List.mem_cons_self
    have kL' := fun x (h : x ∈ K') => kL x (List.mem_cons_of_mem _ h)
    have ny : Num 1000 y.1 y.2 1 := ⟨(sz y yL).1, (sz y yL).2, by decide, by decide⟩
    rcases st with ⟨v, rfl, k⟩ | ⟨x, v, hx, rfl, k⟩
    · conv => whnf
      refine hnx _ ⟨K', rfl, kL', .inr ⟨y, _, yL, rfl, ?_⟩⟩
      rcases List.mem_cons.mp k with k | k
      · exact .inl k.symm
      · exact .inr k
    · have nx : Num 1000 x.1 x.2 1 := ⟨(sz x hx).1, (sz x hx).2, by decide, by decide⟩
      conv => whnf
      refine ⟨1000, _, _, _, _, _, _, rfl, ny, nx, by decide, ?_⟩
      rw [Int.mul_one, Int.mul_one, Int.mul_one, Int.mul_one]
      conv => whnf
      by_cases c : psg (y.1 - x.1) (y.2 - x.2) < 0
      · rw [show decide (psg (y.1 - x.1) (y.2 - x.2) < 0) = true from decide_eq_true c]
        conv => whnf
        refine hnx _ ⟨K', rfl, kL', .inr ⟨y, _, yL, rfl, ?_⟩⟩
        rcases k with rfl | k
        · have := mx y yL
          have e := psg_neg (y.1 - x.1) (y.2 - x.2)
          rw [show -(y.1 - x.1) = x.1 - y.1 by omega, show -(y.2 - x.2) = x.2 - y.2 by omega] at e
          omega
        · rcases List.mem_cons.mp k with k | k
          · exact .inl k.symm
          · exact .inr k
      · rw [show decide (psg (y.1 - x.1) (y.2 - x.2) < 0) = false from decide_eq_false c]
        conv => whnf
        refine hnx _ ⟨K', rfl, kL', .inr ⟨x, _, hx, rfl, ?_⟩⟩
        rcases k with rfl | k
        · exact .inl rfl
        · rcases List.mem_cons.mp k with k | k
          · subst k
            refine .inl (eqm x hx ?_)
            have e := psg_neg (m.1 - x.1) (m.2 - x.2)
            rw [show -(m.1 - x.1) = x.1 - m.1 by omega, show -(m.2 - x.2) = x.2 - m.2 by omega] at e
            omega
          · exact .inr k
theorem psg_tw {A B : Int} (h : psg A B = 1) : psg (2 * B - A) (2 * A + B) = 1 := pos2 (pos_l h) (pos_gq (X := B) (Y := A + B) h rfl rfl) (by omega) (by omega)
theorem psg_bs (A B : Int) : psg (2 * B - A) (2 * A + B) = psg A B := by
  rcases psg_tri A B with h | h | h
  · rw [h]
    exact psg_tw h
  · rw [h]
    obtain ⟨rfl, rfl⟩ := psg_zero h
    rfl
  · rw [h]
    have h2 := neg_up.mp h
    have := psg_tw h2
    rw [show 2 * -B - -A = -(2 * B - A) by omega, show 2 * -A + -B = -(2 * A + B) by omega, psg_neg] at this
    omega
def cN (d j u : Int) : Int := (if (d + 1) % 5 = j then u else 0) - (if (d - 1) % 5 = j then u else 0)
def cF (d j u : Int) : Int := (if (d + 2) % 5 = j then u else 0) - (if (d - 2) % 5 = j then u else 0)
theorem nr_rz (f : Int → Int) (d j u : Int) : nrA (rz f j u) d = nrA f d + cN d j u := by
  unfold nrA cN rz
  omega
theorem fr_rz (f : Int → Int) (d j u : Int) : frA (rz f j u) d = frA f d + cF d j u := by
  unfold frA cF rz
  omega
theorem c_neg (d j : Int) : cN d j (-1) = -cN d j 1 ∧ cF d j (-1) = -cF d j 1 := by
  unfold cN cF
  constructor
  · by_cases h1 : (d + 1) % 5 = j <;> by_cases h2 : (d - 1) % 5 = j <;> simp [h1, h2]
  · by_cases h1 : (d + 2) % 5 = j <;> by_cases h2 : (d - 2) % 5 = j <;> simp [h1, h2]
def psD (d j : Int) : Bool := decide ((j - d) % 5 = 1 ∨ (j - d) % 5 = 2)
theorem cAbs : ∀ d ∈ dirs5, ∀ j ∈ dirs5, (if psD d j = true then cF d j 1 = wdA d j ∧ cN d j 1 = wdB d j else cF d j 1 = -wdA d j ∧ cN d j 1 = -wdB d j) ∧ 0 ≤ psg (wdA d j) (wdB d j) := by decide +kernel
theorem nn_of {a b : Int} (h : 0 ≤ psg a b) : Nn a b := by
  rcases psg_tri a b with z | z | z
  · exact .inl z
  · exact .inr (psg_zero z)
  · omega
theorem of_nn {a b : Int} (h : Nn a b) : 0 ≤ psg a b := by
  rcases h with z | ⟨rfl, rfl⟩
  · omega
  · decide
/-- a step, as it lies across d; what is above it of 0 and itself -/
def sP (d j : Int) : Int × Int := (2 * cN d j 1 - cF d j 1, 2 * cF d j 1 + cN d j 1)
def wP (d j : Int) : Int × Int := (2 * wdB d j - wdA d j, 2 * wdA d j + wdB d j)
def upP (d j : Int) : Int × Int := if psD d j = true then sP d j else (0, 0)
def dnP (d j : Int) : Int × Int := if psD d j = true then (0, 0) else sP d j
theorem up_dnP {d j : Int} (hd : d ∈ dirs5) (hj : j ∈ dirs5) : (2 * (upP d j).1 = (sP d j).1 + (wP d j).1 ∧ 2 * (upP d j).2 = (sP d j).2 + (wP d j).2) ∧ (2 * (dnP d j).1 = (sP d j).1 - (wP d j).1 ∧ 2 * (dnP d j).2 = (sP d j).2 - (wP d j).2) ∧
    (Nn (upP d j).1 (upP d j).2 ∧ Nn ((upP d j).1 - (sP d j).1) ((upP d j).2 - (sP d j).2)) ∧ (Nn (-(dnP d j).1) (-(dnP d j).2) ∧ Nn ((sP d j).1 - (dnP d j).1) ((sP d j).2 - (dnP d j).2)) ∧ (upP d j = (0, 0) ∨ upP d j = sP d j) ∧ (dnP d j = (0, 0) ∨ dnP d j = sP d j) := by
  obtain ⟨h, w⟩ := cAbs d hd j hj
  have w2 := nn_of w
  rw [← psg_bs] at w
  have w3 := nn_of w
  have z : Nn 0 0 := .inr ⟨rfl, rfl⟩
  unfold upP dnP wP
  cases e : psD d j
  · rw [e, if_neg (by decide)] at h
    have e1 : sP d j = (-(2 * wdB d j - wdA d j), -(2 * wdA d j + wdB d j)) := by
      unfold sP
      rw [h.1, h.2]
      refine Prod.ext ?_ ?_ <;> simp <;> omega
    rw [if_neg (by decide), if_neg (by decide), e1]
    refine ⟨⟨by simp; omega, by simp; omega⟩, ⟨by simp; omega, by simp; omega⟩, ⟨z, ?_⟩, ⟨?_, ?_⟩, .inl rfl, .inr rfl⟩
    · simpa using w3
    · simpa using w3
    · simpa using z
  · rw [e, if_pos rfl] at h
    have e1 : sP d j = (2 * wdB d j - wdA d j, 2 * wdA d j + wdB d j) := by
      unfold sP
      rw [h.1, h.2]
    rw [if_pos rfl, if_pos rfl, e1]
    refine ⟨⟨by simp; omega, by simp; omega⟩, ⟨by simp, by simp⟩, ⟨w3, ?_⟩, ⟨?_, ?_⟩, .inr rfl, .inl rfl⟩
    · simpa using z
    · simpa using z
    · simpa using w3
theorem bs_rz (f : Int → Int) (d j : Int) : bsA (rz f j 1) d = bsA f d + (sP d j).1 ∧ bsB (rz f j 1) d = bsB f d + (sP d j).2 := by
  unfold bsA bsB sP
  rw [nr_rz, fr_rz]
  exact ⟨by show _ = _ + (2 * cN d j 1 - cF d j 1); omega, by show _ = _ + (2 * cF d j 1 + cN d j 1); omega⟩
/-- the corners of a tile, as they lie across d -/
def corL (f : Int → Int) (r s d : Int) : List (Int × Int) := [(bsA f d, bsB f d), (bsA f d + (sP d r).1, bsB f d + (sP d r).2), (bsA f d + (sP d s).1, bsB f d + (sP d s).2), (bsA f d + (sP d r).1 + (sP d s).1, bsB f d + (sP d r).2 + (sP d s).2)]
def gmx (f : Int → Int) (r s d : Int) : Int × Int := (bsA f d + (upP d r).1 + (upP d s).1, bsB f d + (upP d r).2 + (upP d s).2)
def gmn (f : Int → Int) (r s d : Int) : Int × Int := (bsA f d + (dnP d r).1 + (dnP d s).1, bsB f d + (dnP d r).2 + (dnP d s).2)
theorem cor_ext {f : Int → Int} {r s d : Int} (hd : d ∈ dirs5) (hr : r ∈ dirs5) (hs : s ∈ dirs5) : gmx f r s d ∈ corL f r s d ∧ gmn f r s d ∈ corL f r s d ∧ (∀ x ∈ corL f r s d, 0 ≤ psg ((gmx f r s d).1 - x.1) ((gmx f r s d).2 - x.2)) ∧ (∀ x ∈ corL f r s d, psg ((gmn f r s d).1 - x.1) ((gmn f r s d).2 - x.2) ≤ 0) := by
  obtain ⟨_, _, ⟨u1, u2⟩, ⟨d1, d2⟩, u3, d3⟩ := up_dnP hd hr
  obtain ⟨_, _, ⟨v1, v2⟩, ⟨c1, c2⟩, v3, c3⟩ := up_dnP hd hs
  unfold corL gmx gmn
  refine ⟨?_, ?_, fun x hx => ?_, fun x hx => ?_⟩
  · rcases u3 with e | e <;> rcases v3 with e2 | e2 <;> rw [e, e2] <;> simp
  · rcases d3 with e | e <;> rcases c3 with e2 | e2 <;> rw [e, e2] <;> simp
  · simp only [List.mem_cons, List.not_mem_nil, or_false] at hx
    rcases hx with rfl | rfl | rfl | rfl
    · have := of_nn (u1.add v1)
      refine le_of_le_of_eq this ?_
      congr 1 <;> simp <;> omega
    · have := of_nn (u2.add v1)
      refine le_of_le_of_eq this ?_
      congr 1 <;> simp <;> omega
    · have := of_nn (u1.add v2)
      refine le_of_le_of_eq this ?_
      congr 1 <;> simp <;> omega
    · have := of_nn (u2.add v2)
      refine le_of_le_of_eq this ?_
      congr 1 <;> simp <;> omega
  · have key : ∀ {a b p q : Int}, Nn a b → p = -a → q = -b → psg p q ≤ 0 := fun h e1 e2 => by
      have := of_nn h
      rw [e1, e2, psg_neg]
      omega
    simp only [List.mem_cons, List.not_mem_nil, or_false] at hx
    rcases hx with rfl | rfl | rfl | rfl
    · exact key (d1.add c1) (by simp; omega) (by simp; omega)
    · exact key (d2.add c1) (by simp; omega) (by simp; omega)
    · exact key (d1.add c2) (by simp; omega) (by simp; omega)
    · exact key (d2.add c2) (by simp; omega) (by simp; omega)
theorem aw_nr (f : Int → Int) (r s : Int) (g : Int → Int) (r' s' d : Int) : nrA (awF f r s g r' s') d = 2 * (nrA g d - nrA f d) - cN d r 1 - cN d s 1 + cN d r' 1 + cN d s' 1 ∧ frA (awF f r s g r' s') d = 2 * (frA g d - frA f d) - cF d r 1 - cF d s 1 + cF d r' 1 + cF d s' 1 := by
  unfold awF
  rw [nr_rz, nr_rz, nr_rz, nr_rz, fr_rz, fr_rz, fr_rz, fr_rz, (c_neg d r).1, (c_neg d r).2, (c_neg d s).1, (c_neg d s).2]
  unfold nrA frA
  dsimp only
  constructor <;> omega
/-- how the program compares, as the law does -/
theorem pt_one {f g : Int → Int} {r s r' s' d : Int} (hd : d ∈ dirs5) (hr : r ∈ dirs5) (hs : s ∈ dirs5) (hr' : r' ∈ dirs5) (hs' : s' ∈ dirs5) :
    psg ((gmx f r s d).1 - (gmn g r' s' d).1) ((gmx f r s d).2 - (gmn g r' s' d).2) = -psg (frA (awF f r s g r' s') d - wA d r s r' s') (nrA (awF f r s g r' s') d - wB d r s r' s') ∧
    psg ((gmx g r' s' d).1 - (gmn f r s d).1) ((gmx g r' s' d).2 - (gmn f r s d).2) = -psg (-frA (awF f r s g r' s') d - wA d r s r' s') (-nrA (awF f r s g r' s') d - wB d r s r' s') := by
  obtain ⟨⟨a1, a2⟩, ⟨b1, b2⟩, _⟩ := up_dnP hd hr
  obtain ⟨⟨a3, a4⟩, ⟨b3, b4⟩, _⟩ := up_dnP hd hs
  obtain ⟨⟨a5, a6⟩, ⟨b5, b6⟩, _⟩ := up_dnP hd hr'
  obtain ⟨⟨a7, a8⟩, ⟨b7, b8⟩, _⟩ := up_dnP hd hs'
  obtain ⟨n1, n2⟩ := aw_nr f r s g r' s' d
  rw [← psg_scale (show (1 : Int) ≤ 2 by decide) ((gmx f r s d).1 - (gmn g r' s' d).1), ← psg_scale (show (1 : Int) ≤ 2 by decide) ((gmx g r' s' d).1 - (gmn f r s d).1), ← psg_neg, ← psg_neg, ← psg_bs (-(frA (awF f r s g r' s') d - wA d r s r' s')), ← psg_bs (-(-frA (awF f r s g r' s') d - wA d r s r' s')), n1, n2]
  unfold gmx gmn wA wB
  simp only [wP, sP] at *
  constructor
  · congr 1 <;> (simp only [bsA, bsB]; omega)
  · congr 1 <;> (simp only [bsA, bsB]; omega)
theorem lsz {n : Nat} (h : n < 100) : n < sizeLine := Nat.lt_of_lt_of_le h (by decide)
theorem lsz' {n : Nat} (h : n < 100) : n ≤ sizeLine := Nat.le_of_lt (lsz h)
theorem len__law_up : ∀ W ds Q R, sp__law_up W ds Q R → ds.length = 3 := by
  rintro W ds Q R ⟨f, j, m, rfl, _⟩
  rfl
theorem law__law_up : ∀ W ds Q R, sp__law_up W ds Q R → g__law_up W R (endsD Q) (startD 3 ds) := by
  rintro W ds Q R ⟨f, j, m, rfl, h0, h4, q⟩
  rcases five_of h0 h4 with h | h | h | h | h <;> subst h <;> simp [g__law_up, startD, tup5, slD, cutG, HT.sIx, ixD, atI, ixN, addD] <;> simpa [tup5, rz] using q
theorem len__law_corners : ∀ W ds Q R, sp__law_corners W ds Q R → ds.length = 1 := by
  rintro W ds Q R ⟨f, r, s, rfl, _⟩
  rfl
theorem law__law_corners : ∀ W ds Q R, sp__law_corners W ds Q R → g__law_corners W R (endsD Q) (startD 4 ds) := by
  rintro W ds Q R ⟨f, r, s, rfl, T, q⟩
  have r0 := T.r0
  have rs := T.rs
  have s4 := T.s4
  unfold g__law_corners
  conv => whnf
  refine ⟨_, rfl, rfl, ?_⟩
  conv => whnf
  refine ⟨f, r, 1, rfl, r0, by omega, ?_⟩
  conv => whnf
  refine ⟨f, s, 1, rfl, by omega, s4, ?_⟩
  conv => whnf
  refine ⟨f, r, 1, rfl, r0, by omega, ?_⟩
  conv => whnf
  refine ⟨rz f r 1, s, 1, rfl, by omega, s4, ?_⟩
  conv => whnf
  exact ⟨lsz' (by simp), q⟩
theorem corn_in {W : WD} {f : Int → Int} {r s : Int} {Q : D → Prop} {R : Er → Prop} (T : TileD (tl f r s) f r s) (q : Q (cornersD f r s)) : sp_corners_of W [tl f r s] Q R := by
  refine ⟨_, rfl, rp_tl f r s, ?_⟩
  have e : fT (tl f r s) = fOf (tup5 f) := rfl
  have h5 : ∀ i : Int, 0 ≤ i → i ≤ 4 → fOf (tup5 f) i = f i := fun i i0 i4 => by
    show at5 (f 0) (f 1) (f 2) (f 3) (f 4) i = f i
    exact at5_at i0 i4
  have e1 : cornersD (fT (tl f r s)) r s = cornersD f r s := by
    rw [e]
    unfold cornersD
    rw [tup5_ext h5, tup5_ext (f := rz (fOf (tup5 f)) r 1) (g := rz f r 1) fun i i0 i4 => by simp only [rz, h5 i i0 i4], tup5_ext (f := rz (fOf (tup5 f)) s 1) (g := rz f s 1) fun i i0 i4 => by simp only [rz, h5 i i0 i4],
      tup5_ext (f := rz (rz (fOf (tup5 f)) r 1) s 1) (g := rz (rz f r 1) s 1) fun i i0 i4 => by simp only [rz, h5 i i0 i4]]
  show outT (onT _ _) Q R
  rw [show cornersD (fT (tl f r s)) (rT (tl f r s)) (sT (tl f r s)) = cornersD f r s from e1]
  simpa [onT, tile_y T, outT] using q
theorem sz_rz {n : Nat} {f : Int → Int} (hf : Szf n f) (hn : 2 ≤ n) {j u : Int} (hu : u = 1 ∨ u = -1) : Szf (n + 1) (rz f j u) := fun i h0 h4 => by
  have h := hf i h0 h4
  have z : Sz 2 (if i = j then u else 0) := by
    by_cases h : i = j
    · rw [if_pos h]
      rcases hu with rfl | rfl <;> decide
    · rw [if_neg h]
      decide
  exact (h.add (z.mono hn)).mono (Nat.le_refl _)
theorem sz_bs {n : Nat} {f : Int → Int} {d : Int} (hf : Szf n f) (d0 : 0 ≤ d) (d4 : d ≤ 4) : Sz (n + 5) (bsA f d) ∧ Sz (n + 5) (bsB f d) := by
  have z2 : Sz 2 (2 : Int) := by decide
  have a := (hf ((d + 1) % 5) (by omega) (by omega)).sub (hf ((d - 1) % 5) (by omega) (by omega))
  have b := (hf ((d + 2) % 5) (by omega) (by omega)).sub (hf ((d - 2) % 5) (by omega) (by omega))
  exact ⟨((z2.mul a).mono (by omega : 2 + (n + 1) ≤ n + 4)).sub (b.mono (by omega)), ((z2.mul b).mono (by omega : 2 + (n + 1) ≤ n + 4)).add (a.mono (by omega))⟩
theorem dir_of {d : Int} (h0 : 0 ≤ d) (h4 : d ≤ 4) : d ∈ dirs5 := by
  rcases five_of h0 h4 with h | h | h | h | h <;> subst h <;> decide
theorem cor_bs (f : Int → Int) (r s d : Int) : [t1 (bsA f d, bsB f d), t1 (bsA (rz f r 1) d, bsB (rz f r 1) d), t1 (bsA (rz f s 1) d, bsB (rz f s 1) d), t1 (bsA (rz (rz f r 1) s 1) d, bsB (rz (rz f r 1) s 1) d)] = (corL f r s d).map t1 := by
  rw [(bs_rz f d r).1, (bs_rz f d r).2, (bs_rz f d s).1, (bs_rz f d s).2, (bs_rz (rz f r 1) d s).1, (bs_rz (rz f r 1) d s).2, (bs_rz f d r).1, (bs_rz f d r).2]
  rfl
theorem cor_sz {f : Int → Int} {r s d : Int} (hf : Szf 300 f) (d0 : 0 ≤ d) (d4 : d ≤ 4) : ∀ x ∈ corL f r s d, Sz 1000 x.1 ∧ Sz 1000 x.2 := by
  have h1 := sz_rz hf (by decide) (j := r) (u := 1) (.inl rfl)
  have h2 := sz_rz hf (by decide) (j := s) (u := 1) (.inl rfl)
  have h3 := sz_rz h1 (by decide) (j := s) (u := 1) (.inl rfl)
  have k : ∀ {n : Nat} {g : Int → Int} {x : Int × Int}, Szf n g → n ≤ 302 → x = (bsA g d, bsB g d) → Sz 1000 x.1 ∧ Sz 1000 x.2 := fun {n g x} h hn e => by
    rw [e]
    exact ⟨(sz_bs h d0 d4).1.mono (by omega), (sz_bs h d0 d4).2.mono (by omega)⟩
  intro x hx
  unfold corL at hx
  simp only [List.mem_cons, List.not_mem_nil, or_false] at hx
  rcases hx with hx | hx | hx | hx
  · exact k hf (by decide) hx
  · exact k h1 (by decide) (by rw [hx, (bs_rz f d r).1, (bs_rz f d r).2])
  · exact k h2 (by decide) (by rw [hx, (bs_rz f d s).1, (bs_rz f d s).2])
  · exact k h3 (by decide) (by rw [hx, (bs_rz (rz f r 1) d s).1, (bs_rz (rz f r 1) d s).2, (bs_rz f d r).1, (bs_rz f d r).2])
theorem len_is_parted : ∀ W ds Q R, sp_is_parted W ds Q R → ds.length = 3 := by
  rintro W ds Q R ⟨f, r, s, g, r', s', d, rfl, _⟩
  rfl
theorem law_is_parted : ∀ W ds Q R, sp_is_parted W ds Q R → g_is_parted W R (endsD Q) (startD 6 ds) := by
  rintro W ds Q R ⟨f, r, s, g, r', s', d, rfl, T, T', hf, hg, d0, d4, q⟩
  have hd := dir_of d0 d4
  have z4 : ∀ {n : Nat} {h : Int → Int}, Szf n h → n ≤ 400 → Szf 400 h := fun z hn i i0 i4 => (z i i0 i4).mono hn
  have h1 := fun j => sz_rz hf (by decide) (j := j) (u := 1) (.inl rfl)
  have h2 := fun j i => sz_rz (h1 j) (by decide) (j := i) (u := 1) (.inl rfl)
  have k1 := fun j => sz_rz hg (by decide) (j := j) (u := 1) (.inl rfl)
  have k2 := fun j i => sz_rz (k1 j) (by decide) (j := i) (u := 1) (.inl rfl)
  obtain ⟨a1, a2, a3, a4⟩ := cor_ext (f := f) hd (dir_of T.r0 (by have := T.rs; have := T.s4; omega)) (dir_of (by have := T.rs; have := T.r0; omega) T.s4)
  obtain ⟨b1, b2, b3, b4⟩ := cor_ext (f := g) hd (dir_of T'.r0 (by have := T'.rs; have := T'.s4; omega)) (dir_of (by have := T'.rs; have := T'.r0; omega) T'.s4)
  obtain ⟨p1, p2⟩ := pt_one (f := f) (g := g) hd (dir_of T.r0 (by have := T.rs; have := T.s4; omega)) (dir_of (by have := T.rs; have := T.r0; omega) T.s4) (dir_of T'.r0 (by have := T'.rs; have := T'.s4; omega)) (dir_of (by have := T'.rs; have := T'.r0; omega) T'.s4)
  have sf := cor_sz (r := r) (s := s) hf d0 d4
  have sg := cor_sz (r := r') (s := s') hg d0 d4
  unfold g_is_parted
  conv => whnf
  refine corn_in (W := W) T ?_
  conv => whnf
  refine ⟨_, d, rfl, d0, d4, z4 hf (by decide), ?_⟩
  conv => whnf
  refine ⟨lsz (by simp), ?_⟩
  conv => whnf
  refine ⟨_, d, rfl, d0, d4, z4 (h1 r) (by decide), ?_⟩
  conv => whnf
  refine ⟨lsz (by simp), ?_⟩
  conv => whnf
  refine ⟨_, d, rfl, d0, d4, z4 (h1 s) (by decide), ?_⟩
  conv => whnf
  refine ⟨lsz (by simp), ?_⟩
  conv => whnf
  refine ⟨_, d, rfl, d0, d4, z4 (h2 r s) (by decide), ?_⟩
  conv => whnf
  refine ⟨lsz (by simp), ?_⟩
  conv => whnf
  refine corn_in (W := W) T' ?_
  conv => whnf
  refine ⟨_, d, rfl, d0, d4, z4 hg (by decide), ?_⟩
  conv => whnf
  refine ⟨lsz (by simp), ?_⟩
  conv => whnf
  refine ⟨_, d, rfl, d0, d4, z4 (k1 r') (by decide), ?_⟩
  conv => whnf
  refine ⟨lsz (by simp), ?_⟩
  conv => whnf
  refine ⟨_, d, rfl, d0, d4, z4 (k1 s') (by decide), ?_⟩
  conv => whnf
  refine ⟨lsz (by simp), ?_⟩
  conv => whnf
  refine ⟨_, d, rfl, d0, d4, z4 (k2 r' s') (by decide), ?_⟩
  conv => whnf
  refine ⟨lsz (by simp), ?_⟩
  conv => whnf
  have eF := cor_bs f r s d
  have eG := cor_bs g r' s' d
  refine ⟨corL f r s d, _, by rw [← eF]; rfl, a1, sf, a3, ?_⟩
  conv => whnf
  refine ⟨corL g r' s' d, _, by rw [← eG]; rfl, b2, sg, b4, ?_⟩
  refine ⟨1000, (gmx f r s d).1, (gmx f r s d).2, 1, (gmn g r' s' d).1, (gmn g r' s' d).2, 1, rfl, ⟨(sf _ a1).1, (sf _ a1).2, by decide, by decide⟩, ⟨(sg _ b2).1, (sg _ b2).2, by decide, by decide⟩, by decide, ?_⟩
  rw [Int.mul_one, Int.mul_one, Int.mul_one, Int.mul_one, p1]
  unfold ptD at q
  generalize psg (frA (awF f r s g r' s') d - wA d r s r' s') (nrA (awF f r s g r' s') d - wB d r s r' s') = u at *
  conv => whnf
  by_cases h : 0 ≤ u
  · rw [show decide (-u ≤ 0) = true from decide_eq_true (by omega)]
    conv => whnf
    rw [show decide (0 ≤ u) = true from decide_eq_true h] at q
    exact q
  · rw [show decide (-u ≤ 0) = false from decide_eq_false (by omega)]
    rw [show decide (0 ≤ u) = false from decide_eq_false h, Bool.false_or] at q
    conv => whnf
    have eF := cor_bs f r s d
    have eG := cor_bs g r' s' d
    refine ⟨corL g r' s' d, _, by rw [← eG]; rfl, b1, sg, b3, ?_⟩
    conv => whnf
    refine ⟨corL f r s d, _, by rw [← eF]; rfl, a2, sf, a4, ?_⟩
    conv => whnf
    refine ⟨1000, (gmx g r' s' d).1, (gmx g r' s' d).2, 1, (gmn f r s d).1, (gmn f r s d).2, 1, rfl, ⟨(sg _ b1).1, (sg _ b1).2, by decide, by decide⟩, ⟨(sf _ a2).1, (sf _ a2).2, by decide, by decide⟩, by decide, ?_⟩
    rw [Int.mul_one, Int.mul_one, Int.mul_one, Int.mul_one, p2]
    generalize psg (-frA (awF f r s g r' s') d - wA d r s r' s') (-nrA (awF f r s g r' s') d - wB d r s r' s') = v at *
    conv => whnf
    rw [show decide (-v ≤ 0) = decide (0 ≤ v) from decide_eq_decide.mpr (by omega)]
    exact q
theorem eqb_tl (f g : Int → Int) (r s r' s' : Int) : eqb (tl f r s) (tl g r' s') = (sm5 f g && (decide (r = r') && decide (s = s'))) := by
  have e : eqb (tl f r s) (tl g r' s') = (eqb (tup5 f) (tup5 g) && ((r == r') && ((s == s') && true))) := rfl
  rw [e, eqb_tup5, Bool.and_true]
  rfl
theorem pl_tl (f : Int → Int) (r s : Int) : pl 64 (tl f r s) = true := by simp [tl, tup5, pl, pls]
theorem ptD_cong {f g f2 g2 : Int → Int} (h : ∀ i, 0 ≤ i → i ≤ 4 → g i - f i = g2 i - f2 i) (r s r' s' d : Int) : ptD f r s g r' s' d = ptD f2 r s g2 r' s' d := by
  have n1 := h ((d + 1) % 5) (by omega) (by omega)
  have n2 := h ((d - 1) % 5) (by omega) (by omega)
  have n3 := h ((d + 2) % 5) (by omega) (by omega)
  have n4 := h ((d - 2) % 5) (by omega) (by omega)
  unfold ptD
  rw [(aw_nr f r s g r' s' d).1, (aw_nr f r s g r' s' d).2, (aw_nr f2 r s g2 r' s' d).1, (aw_nr f2 r s g2 r' s' d).2]
  rw [show nrA g d - nrA f d = nrA g2 d - nrA f2 d by unfold nrA; omega, show frA g d - frA f d = frA g2 d - frA f2 d by unfold frA; omega]
theorem ovl_cong {f g f2 g2 : Int → Int} (h : ∀ i, 0 ≤ i → i ≤ 4 → g i - f i = g2 i - f2 i) (r s r' s' : Int) : ovl f r s g r' s' = ovl f2 r s g2 r' s' := by
  unfold ovl
  rw [ptD_cong h, ptD_cong h, ptD_cong h, ptD_cong h]
def z0 : Int → Int := fun _ => 0
theorem ovl_00 : ∀ r ∈ dirs5, ∀ s ∈ dirs5, r < s → ovl z0 r s z0 r s = true := by decide +kernel
theorem ovl_self {f g : Int → Int} {r s : Int} (e : sm5 f g = true) (T : TileD (tl f r s) f r s) : ovl f r s g r s = true := by
  have e2 : f 0 = g 0 ∧ f 1 = g 1 ∧ f 2 = g 2 ∧ f 3 = g 3 ∧ f 4 = g 4 := by simpa [sm5] using e
  have h : ∀ i, 0 ≤ i → i ≤ 4 → f i = g i := fun i i0 i4 => by
    rcases five_of i0 i4 with h | h | h | h | h <;> subst h
    · exact e2.1
    · exact e2.2.1
    · exact e2.2.2.1
    · exact e2.2.2.2.1
    · exact e2.2.2.2.2
  rw [ovl_cong (f2 := z0) (g2 := z0) fun i i0 i4 => by rw [h i i0 i4]; show _ = (0 : Int) - 0; omega]
  have r0 := T.r0
  have rs := T.rs
  have s4 := T.s4
  exact ovl_00 r (dir_of r0 (by omega)) s (dir_of (by omega) s4) rs
theorem len_are_overlapping : ∀ W ds Q R, sp_are_overlapping W ds Q R → ds.length = 2 := by
  rintro W ds Q R ⟨f, r, s, g, r', s', rfl, _⟩
  rfl
theorem law_are_overlapping : ∀ W ds Q R, sp_are_overlapping W ds Q R → g_are_overlapping W R (endsD Q) (startD 3 ds) := by
  rintro W ds Q R ⟨f, r, s, g, r', s', rfl, T, T', hf, hg, q⟩
  have r0 := T.r0
  have rs := T.rs
  have s4 := T.s4
  have r0' := T'.r0
  have rs' := T'.rs
  have s4' := T'.s4
  unfold g_are_overlapping
  conv => whnf
  refine ⟨pl_tl _ _ _, pl_tl _ _ _, ?_⟩
  rw [eqb_tl]
  cases e : sm5 f g && (decide (r = r') && decide (s = s'))
  · conv => whnf
    refine ⟨1, rfl, ?_⟩
    conv => whnf
    refine ⟨1, rfl, ?_⟩
    conv => whnf
    refine ⟨(show 4 ≤ sizeLine by decide), ?_⟩
    conv => whnf
    refine ⟨f, r, s, g, r', s', r, rfl, T, T', hf, hg, by omega, by omega, ?_⟩
    conv => whnf
    refine ⟨lsz (by simp), ?_⟩
    conv => whnf
    refine ⟨f, r, s, g, r', s', s, rfl, T, T', hf, hg, by omega, by omega, ?_⟩
    conv => whnf
    refine ⟨lsz (by simp), ?_⟩
    conv => whnf
    refine ⟨f, r, s, g, r', s', r', rfl, T, T', hf, hg, by omega, by omega, ?_⟩
    conv => whnf
    refine ⟨lsz (by simp), ?_⟩
    conv => whnf
    refine ⟨f, r, s, g, r', s', s', rfl, T, T', hf, hg, by omega, by omega, ?_⟩
    conv => whnf
    refine ⟨lsz (by simp), ?_⟩
    conv => whnf
    refine ⟨_, rfl, ?_⟩
    conv => whnf
    unfold ovl at q
    simpa [List.any] using q
  · simp only [Bool.and_eq_true, decide_eq_true_eq] at e
    obtain ⟨e1, rfl, rfl⟩ := e
    rw [ovl_self e1 T] at q
    exact q
theorem sz_of {m : Nat} {i : Int} (h : sm (2 ^ m) (.int i) = true) : Sz m i := by
  simpa [sm, Sz] using h
theorem fT_sz {x : D} (h : Pk x) (e : isTile x = true) : Szf 260 (fT x) := by
  have T := tile_n e
  have b := h.b
  rw [T.e] at b
  simp only [tl, tup5, sm, sms, Bool.and_eq_true] at b
  intro i i0 i4
  rcases five_of i0 i4 with h | h | h | h | h <;> subst h
  · exact sz_of b.1.1
  · exact sz_of b.1.2.1
  · exact sz_of b.1.2.2.1
  · exact sz_of b.1.2.2.2.1
  · exact sz_of b.1.2.2.2.2.1
theorem szf_mono {n m : Nat} {f : Int → Int} (h : Szf n f) (e : n ≤ m) : Szf m f := fun i i0 i4 => (h i i0 i4).mono e
theorem len_do_overlap : ∀ W ds Q R, sp_do_overlap W ds Q R → ds.length = 2 := by
  rintro W ds Q R ⟨x, y, rfl, _⟩
  rfl
theorem law_do_overlap : ∀ W ds Q R, sp_do_overlap W ds Q R → g_do_overlap W R (endsD Q) (startD 3 ds) := by
  rintro W ds Q R ⟨x, y, rfl, hx, hy, o⟩
  unfold g_do_overlap
  conv => whnf
  refine ⟨lsz' (by simp), ?_⟩
  conv => whnf
  refine forL_in ?_
  conv => whnf
  refine ⟨x, rfl, rp_mono _ _ _ (by decide) hx.r, ?_⟩
  unfold ovO at o
  cases ex : isTile x
  · rw [ex, if_neg (by decide)] at o
    exact o
  · rw [ex, if_pos rfl] at o
    conv => whnf
    refine ⟨y, rfl, rp_mono _ _ _ (by decide) hy.r, ?_⟩
    unfold onT at o
    cases ey : isTile y
    · rw [ey, if_neg (by decide)] at o
      exact o
    · rw [ey, if_pos rfl] at o
      conv => whnf
      have Tx := tile_n ex
      have Ty := tile_n ey
      exact ⟨fT x, rT x, sT x, fT y, rT y, sT y, by rw [← Tx.e, ← Ty.e], ⟨rfl, Tx.k, Tx.r0, Tx.rs, Tx.s4⟩, ⟨rfl, Ty.k, Ty.r0, Ty.rs, Ty.s4⟩, szf_mono (fT_sz hx ex) (by decide), szf_mono (fT_sz hy ey) (by decide), o⟩
theorem len__law_marked : ∀ W ds Q R, sp__law_marked W ds Q R → ds.length = 1 := by
  rintro W ds Q R ⟨f, r, s, rfl, _⟩
  rfl
theorem inb2 (i a b : Int) : inb (.int i) [.int a, .int b] = decide (i = a ∨ i = b) := by
  have e1 : eqb (.int a) (.int i) = (a == i) := rfl
  have e2 : eqb (.int b) (.int i) = (b == i) := rfl
  simp only [inb, List.any_cons, List.any_nil, Bool.or_false, e1, e2]
  by_cases h1 : i = a
  · subst h1; simp
  · by_cases h2 : i = b
    · subst h2; simp
    · simp [h1, h2, Ne.symm h1, Ne.symm h2]
theorem eqb_b (a b : Bool) : eqb (.bl a) (.bl b) = (a == b) := rfl
theorem eqb_i (a b : Int) : eqb (.int a) (.int b) = decide (a = b) := rfl
theorem sum_l (h : Int → Int) : [h 0, h 1, h 2, h 3, h 4].sum = sum5 h := by
  unfold sum5
  simp only [List.sum_cons, List.sum_nil]
  omega
theorem four_or {n : Nat} (h : n ∈ four) : n = 0 ∨ n = 1 ∨ n = 2 ∨ n = 3 := by
  simpa using h
theorem ef_sum {f : Int → Int} {r s : Int} (h : TileD (tl f r s) f r s) {n : Nat} (hn : n ∈ four) : sum5 (ef f r s n) = if n < 2 then sum5 f else sum5 f + 1 := by
  have e1 := rz_sum (f := f) (j := s) (u := 1) (by have := h.rs; have := h.r0; omega) h.s4
  have e2 := rz_sum (f := f) (j := r) (u := 1) h.r0 (by have := h.rs; have := h.s4; omega)
  rcases four_or hn with rfl | rfl | rfl | rfl
  · rfl
  · rfl
  · exact e1
  · exact e2
theorem mk_w {f : Int → Int} {r s : Int} (h : TileD (tl f r s) f r s) {n : Nat} (hn : n ∈ four) : mkS (sum5 f) r s n = if sum5 (ef f r s n) = 2 then inner (sum5 f) r s else "outer" := by
  rw [ef_sum h hn]
  rcases h.k with k | k <;> rw [k] <;> rcases four_or hn with rfl | rfl | rfl | rfl <;> simp [mkS]
theorem eo_rng {f : Int → Int} {r s : Int} (h : TileD (tl f r s) f r s) {n : Nat} (hn : n ∈ four) : 0 ≤ eo r s n ∧ eo r s n ≤ 4 := by
  obtain ⟨_, k, r0, rs, s4⟩ := h
  rcases four_or hn with rfl | rfl | rfl | rfl
  · exact ⟨by show 0 ≤ s; omega, s4⟩
  · exact ⟨r0, by show r ≤ 4; omega⟩
  · exact ⟨by show 0 ≤ s; omega, s4⟩
  · exact ⟨r0, by show r ≤ 4; omega⟩
theorem ll_b (f : Int → Int) (r s : Int) {n : Nat} (hn : n ∈ four) : lleft r s n = eqb (.bl (if false = true then !inb (.int ((eo r s n - ej r s n + 5) % 5)) [.int 1, .int 2] else inb (.int ((eo r s n - ej r s n + 5) % 5)) [.int 1, .int 2])) (.bl (eqb (.int (ef f r s n (eo r s n))) (.int (f (eo r s n))))) := by
  rw [eqb_b, eqb_i, inb2]
  have e : decide (ef f r s n (eo r s n) = f (eo r s n)) = decide (n < 2) := by
    rcases four_or hn with rfl | rfl | rfl | rfl
    · exact decide_eq_true rfl
    · exact decide_eq_true rfl
    · exact decide_eq_false (by show ¬ rz f s 1 s = f s; unfold rz; rw [if_pos rfl]; omega)
    · exact decide_eq_false (by show ¬ rz f r 1 r = f r; unfold rz; rw [if_pos rfl]; omega)
  rw [e]
  unfold lleft near2
  rw [show decide ((eo r s n - ej r s n + 5) % 5 = 1 ∨ (eo r s n - ej r s n + 5) % 5 = 2) = decide ((eo r s n - ej r s n) % 5 = 1 ∨ (eo r s n - ej r s n) % 5 = 2) from decide_eq_decide.mpr (by omega)]
  rfl
theorem md_ext {f : Int → Int} {r s : Int} {n : Nat} {w : Str} {b : Bool} (h1 : mkS (sum5 f) r s n = w) (h2 : lleft r s n = b) : mdD f r s n = .tup [eg (ef f r s n) (ej r s n), .str w, .bl b] := by
  rw [← h1, ← h2]
  rfl
theorem law__law_marked : ∀ W ds Q R, sp__law_marked W ds Q R → g__law_marked W R (endsD Q) (startD 10 ds) := by
  rintro W ds Q R ⟨f, r, s, rfl, T, q⟩
  have r0 := T.r0
  have rs := T.rs
  have s4 := T.s4
  have nr : decide (s - r = 1 ∨ s - r = 4) = near r s := decide_eq_decide.mpr (by omega)
  unfold g__law_marked
  ((conv => whnf); repeat decreasing_trivial_pre_omega)
  split
  · rename_i h
    have h : eqb (.bl (if false = true then !inb (.int (s - r)) [.int 1, .int 4] else inb (.int (s - r)) [.int 1, .int 4])) (.bl (eqb (.int [f 0, f 1, f 2, f 3, f 4].sum) (.int 1))) = true := h
    rw [inb2, nr, sum_l, eqb_b, eqb_i] at h
    have ew : inner (sum5 f) r s = "up" := by
      unfold inner
      rw [if_pos (by simpa using h)]
    ((conv => whnf); repeat decreasing_trivial_pre_omega)
    refine ⟨by omega, s4, ?_⟩
    ((conv => whnf); repeat decreasing_trivial_pre_omega)
    refine ⟨r0, by omega, ?_⟩
    ((conv => whnf); repeat decreasing_trivial_pre_omega)
    refine forL_in ?_
    refine forG_inv (fun ds σ => ∃ (K C : List Nat) (a b c d : SV), four = C ++ K ∧ ds = K.map (fun n => .tup [tup5 (ef f r s n), .int (ej r s n), .int (eo r s n)]) ∧ σ = [.d (tl f r s), .d (tup5 f), .d (.int r), .d (.int s), .d (.str "up"), .ol (C.map (mdD f r s)), a, b, c, d]) ?_ ?_ _ _ ⟨four, [], _, _, _, _, rfl, rfl, rfl⟩
    · rintro σ ⟨K, C, a, b, c, d, e4, eK, rfl⟩
      have e0 := List.map_eq_nil_iff.mp eK.symm
      subst e0
      rw [List.append_nil] at e4
      rw [e4] at q
      ((conv => whnf); repeat decreasing_trivial_pre_omega)
      exact q
    · rintro z zs σ ⟨K, C, a, b, c, d, e4, eK, rfl⟩ E' hrt hbk hnx hct
      obtain ⟨n, K', rfl⟩ : ∃ n K', K = n :: K' := by
        cases K with
        | nil => cases eK
        | cons n K' => exact ⟨n, K', rfl⟩
      obtain ⟨rfl, rfl⟩ := List.cons.inj eK
      have hn : n ∈ four := by rw [e4]; simp
      have nx := fun (w : Str) (b : Bool) (h1 : mkS (sum5 f) r s n = w) (h2 : lleft r s n = b) x6 x7 x8 x9 => hnx [.d (tl f r s), .d (tup5 f), .d (.int r), .d (.int s), .d (.str "up"), .ol (C.map (mdD f r s) ++ [.tup [eg (ef f r s n) (ej r s n), .str w, .bl b]]), x6, x7, x8, x9] ⟨K', C ++ [n], x6, x7, x8, x9, by rw [e4]; simp, rfl, by rw [List.map_append, ← md_ext h1 h2]; rfl⟩
      have hD : (C.map (mdD f r s)).length < sizeLine := by
        rw [List.length_map]
        have := congrArg List.length e4
        rw [List.length_append, List.length_cons] at this
        exact lsz (by simp at this; omega)
      obtain ⟨o0, o4⟩ := eo_rng T hn
      have mw := mk_w T hn
      have lb := ll_b f r s hn
      rw [ew] at mw
      generalize C.map (mdD f r s) = A at *
      ((conv => whnf); repeat decreasing_trivial_pre_omega)
      split
      · rename_i h
        have h : eqb (.int [ef f r s n 0, ef f r s n 1, ef f r s n 2, ef f r s n 3, ef f r s n 4].sum) (.int 2) = true := h
        rw [sum_l, eqb_i] at h
        rw [if_pos (of_decide_eq_true h)] at mw
        ((conv => whnf); repeat decreasing_trivial_pre_omega)
        refine ix_t5 o0 o4 ?_
        ((conv => whnf); repeat decreasing_trivial_pre_omega)
        refine ix_t5 o0 o4 ?_
        ((conv => whnf); repeat decreasing_trivial_pre_omega)
        exact ⟨hD, nx _ _ mw lb _ _ _ _⟩
      · rename_i h
        have h : eqb (.int [ef f r s n 0, ef f r s n 1, ef f r s n 2, ef f r s n 3, ef f r s n 4].sum) (.int 2) = false := h
        rw [sum_l, eqb_i] at h
        rw [if_neg (of_decide_eq_false h)] at mw
        ((conv => whnf); repeat decreasing_trivial_pre_omega)
        refine ix_t5 o0 o4 ?_
        ((conv => whnf); repeat decreasing_trivial_pre_omega)
        refine ix_t5 o0 o4 ?_
        ((conv => whnf); repeat decreasing_trivial_pre_omega)
        exact ⟨hD, nx _ _ mw lb _ _ _ _⟩
  · rename_i h
    have h : eqb (.bl (if false = true then !inb (.int (s - r)) [.int 1, .int 4] else inb (.int (s - r)) [.int 1, .int 4])) (.bl (eqb (.int [f 0, f 1, f 2, f 3, f 4].sum) (.int 1))) = false := h
    rw [inb2, nr, sum_l, eqb_b, eqb_i] at h
    have ew : inner (sum5 f) r s = "down" := by
      unfold inner
      rw [if_neg (by simpa using h)]
    ((conv => whnf); repeat decreasing_trivial_pre_omega)
    refine ⟨by omega, s4, ?_⟩
    ((conv => whnf); repeat decreasing_trivial_pre_omega)
    refine ⟨r0, by omega, ?_⟩
    ((conv => whnf); repeat decreasing_trivial_pre_omega)
    refine forL_in ?_
    refine forG_inv (fun ds σ => ∃ (K C : List Nat) (a b c d : SV), four = C ++ K ∧ ds = K.map (fun n => .tup [tup5 (ef f r s n), .int (ej r s n), .int (eo r s n)]) ∧ σ = [.d (tl f r s), .d (tup5 f), .d (.int r), .d (.int s), .d (.str "down"), .ol (C.map (mdD f r s)), a, b, c, d]) ?_ ?_ _ _ ⟨four, [], _, _, _, _, rfl, rfl, rfl⟩
    · rintro σ ⟨K, C, a, b, c, d, e4, eK, rfl⟩
      have e0 := List.map_eq_nil_iff.mp eK.symm
      subst e0
      rw [List.append_nil] at e4
      rw [e4] at q
      ((conv => whnf); repeat decreasing_trivial_pre_omega)
      exact q
    · rintro z zs σ ⟨K, C, a, b, c, d, e4, eK, rfl⟩ E' hrt hbk hnx hct
      obtain ⟨n, K', rfl⟩ : ∃ n K', K = n :: K' := by
        cases K with
        | nil => cases eK
        | cons n K' => exact ⟨n, K', rfl⟩
      obtain ⟨rfl, rfl⟩ := List.cons.inj eK
      have hn : n ∈ four := by rw [e4]; simp
      have nx := fun (w : Str) (b : Bool) (h1 : mkS (sum5 f) r s n = w) (h2 : lleft r s n = b) x6 x7 x8 x9 => hnx [.d (tl f r s), .d (tup5 f), .d (.int r), .d (.int s), .d (.str "down"), .ol (C.map (mdD f r s) ++ [.tup [eg (ef f r s n) (ej r s n), .str w, .bl b]]), x6, x7, x8, x9] ⟨K', C ++ [n], x6, x7, x8, x9, by rw [e4]; simp, rfl, by rw [List.map_append, ← md_ext h1 h2]; rfl⟩
      have hD : (C.map (mdD f r s)).length < sizeLine := by
        rw [List.length_map]
        have := congrArg List.length e4
        rw [List.length_append, List.length_cons] at this
        exact lsz (by simp at this; omega)
      obtain ⟨o0, o4⟩ := eo_rng T hn
      have mw := mk_w T hn
      have lb := ll_b f r s hn
      rw [ew] at mw
      generalize C.map (mdD f r s) = A at *
      ((conv => whnf); repeat decreasing_trivial_pre_omega)
      split
      · rename_i h
        have h : eqb (.int [ef f r s n 0, ef f r s n 1, ef f r s n 2, ef f r s n 3, ef f r s n 4].sum) (.int 2) = true := h
        rw [sum_l, eqb_i] at h
        rw [if_pos (of_decide_eq_true h)] at mw
        ((conv => whnf); repeat decreasing_trivial_pre_omega)
        refine ix_t5 o0 o4 ?_
        ((conv => whnf); repeat decreasing_trivial_pre_omega)
        refine ix_t5 o0 o4 ?_
        ((conv => whnf); repeat decreasing_trivial_pre_omega)
        exact ⟨hD, nx _ _ mw lb _ _ _ _⟩
      · rename_i h
        have h : eqb (.int [ef f r s n 0, ef f r s n 1, ef f r s n 2, ef f r s n 3, ef f r s n 4].sum) (.int 2) = false := h
        rw [sum_l, eqb_i] at h
        rw [if_neg (of_decide_eq_false h)] at mw
        ((conv => whnf); repeat decreasing_trivial_pre_omega)
        refine ix_t5 o0 o4 ?_
        ((conv => whnf); repeat decreasing_trivial_pre_omega)
        refine ix_t5 o0 o4 ?_
        ((conv => whnf); repeat decreasing_trivial_pre_omega)
        exact ⟨hD, nx _ _ mw lb _ _ _ _⟩
theorem neb_b (a b : Bool) : (!eqb (.bl a) (.bl b)) = (a != b) := rfl
def mtD (f : Int → Int) (r s : Int) (g : Int → Int) (r' s' : Int) (n m : Nat) : Option D := (mtC f r s g r' s' n m).map D.int
theorem mt_find (f : Int → Int) (r s : Int) (g : Int → Int) (r' s' : Int) : (four.findSome? fun n => four.findSome? (mtD f r s g r' s' n)) = (four.findSome? fun n => four.findSome? fun m => mtC f r s g r' s' n m).map D.int := by
  have e1 : ∀ (L : List Nat) n, L.findSome? (mtD f r s g r' s' n) = (L.findSome? fun m => mtC f r s g r' s' n m).map D.int := by
    intro L n
    induction L with
    | nil => rfl
    | cons m L ih =>
      rw [List.findSome?_cons, List.findSome?_cons, ih]
      unfold mtD
      cases mtC f r s g r' s' n m <;> rfl
  have e2 : ∀ M L : List Nat, (L.findSome? fun n => M.findSome? (mtD f r s g r' s' n)) = (L.findSome? fun n => M.findSome? fun m => mtC f r s g r' s' n m).map D.int := by
    intro M L
    induction L with
    | nil => rfl
    | cons n L ih =>
      rw [List.findSome?_cons, List.findSome?_cons, ih, e1]
      cases M.findSome? fun m => mtC f r s g r' s' n m <;> rfl
  exact e2 four four
theorem len__law_meeting : ∀ W ds Q R, sp__law_meeting W ds Q R → ds.length = 2 := by
  rintro W ds Q R ⟨f, r, s, g, r', s', rfl, _⟩
  rfl
theorem law__law_meeting : ∀ W ds Q R, sp__law_meeting W ds Q R → g__law_meeting W R (endsD Q) (startD 8 ds) := by
  rintro W ds Q R ⟨f, r, s, g, r', s', rfl, T, T', q⟩
  have ef := mt_find f r s g r' s'
  unfold mtI at q
  unfold g__law_meeting
  conv => whnf
  refine ⟨f, r, s, rfl, T, ?_⟩
  conv => whnf
  refine forL_in ?_
  refine forG_find (mdD f r s) (fun n => four.findSome? (mtD f r s g r' s' n)) (fun σ => ∃ a b c d e h, σ = [.d (tl f r s), .d (tl g r' s'), a, b, c, d, e, h]) four _ ⟨_, _, _, _, _, _, rfl⟩ (fun v ev => ?_) (fun ev => ?_) ?_
  · rw [ev] at ef
    cases e2 : (four.findSome? fun n => four.findSome? fun m => mtC f r s g r' s' n m) with
    | none => rw [e2] at ef; cases ef
    | some i =>
      rw [e2] at ef q
      cases ef
      exact q
  · rintro σ ⟨a, b, c, d, e, h, rfl⟩
    rw [ev] at ef
    cases e2 : (four.findSome? fun n => four.findSome? fun m => mtC f r s g r' s' n m) with
    | some i => rw [e2] at ef; cases ef
    | none =>
      rw [e2] at q
      exact q
  · clear ef q
    rintro n hn σ ⟨a, b, c, d, e, h, rfl⟩ E' hrt hv hnx hct
    ((conv => whnf); repeat decreasing_trivial_pre_omega)
    refine ⟨T', ?_⟩
    conv => whnf
    refine forL_in ?_
    refine forG_find (mdD g r' s') (mtD f r s g r' s' n) (fun σ => ∃ d e h, σ = [.d (tl f r s), .d (tl g r' s'), .d (eg (ef f r s n) (ej r s n)), .d (.str (mkS (sum5 f) r s n)), .d (.bl (lleft r s n)), d, e, h]) four _ ⟨_, _, _, rfl⟩ (fun v ev => ?_) (fun ev => ?_) ?_
    · rw [hrt]
      exact hv v ev
    · rintro σ ⟨d, e, h, rfl⟩
      exact hnx ev _ ⟨_, _, _, _, _, _, rfl⟩
    · rintro m hm σ ⟨d, e, h, rfl⟩ E2 hrt2 hv2 hnx2 hct2
      have es : eqb (eg (ef f r s n) (ej r s n)) (eg (ef g r' s' m) (ej r' s' m)) = same f r s g r' s' n m := eqb_eg _ _ _ _
      ((conv => whnf); repeat decreasing_trivial_pre_omega)
      rw [es]
      cases h1 : same f r s g r' s' n m
      · ((conv => whnf); repeat decreasing_trivial_pre_omega)
        exact hnx2 (by unfold mtD mtC; rw [h1, if_neg (by decide)]; rfl) _ ⟨_, _, _, rfl⟩
      · ((conv => whnf); repeat decreasing_trivial_pre_omega)
        have mt : mtD f r s g r' s' n m = some (.int (if meet f r s g r' s' n m = true then 1 else -1)) := by
          unfold mtD mtC
          rw [h1, if_pos rfl]
          rfl
        have hv2 := hv2 _ mt
        unfold meet at hv2
        rw [h1, Bool.true_and] at hv2
        by_cases h2 : mkS (sum5 f) r s n = mkS (sum5 g) r' s' m
        · rw [decide_eq_true h2]
          ((conv => whnf); repeat decreasing_trivial_pre_omega)
          rw [neb_b]
          rw [decide_eq_true h2, Bool.and_true] at hv2
          cases h3 : lleft r s n != lleft r' s' m
          · rw [h3] at hv2
            ((conv => whnf); repeat decreasing_trivial_pre_omega)
            exact (congrFun hrt2 _).mpr hv2
          · rw [h3] at hv2
            ((conv => whnf); repeat decreasing_trivial_pre_omega)
            exact (congrFun hrt2 _).mpr hv2
        · rw [decide_eq_false h2]
          rw [decide_eq_false h2, Bool.and_false] at hv2
          ((conv => whnf); repeat decreasing_trivial_pre_omega)
          exact (congrFun hrt2 _).mpr hv2
theorem tl_mk {h : Int → Int} {j t : Int} (j0 : 0 ≤ j) (j4 : j ≤ 4) (t0 : 0 ≤ t) (t4 : t ≤ 4) (ne : t ≠ j) (hs : sum5 h = 1 ∨ sum5 h = 2) : TileD (tl h (if t < j then t else j) (if t > j then t else j)) h (if t < j then t else j) (if t > j then t else j) := by
  refine ⟨rfl, hs, ?_, ?_, ?_⟩
  · split <;> omega
  · split <;> split <;> omega
  · split <;> omega
theorem len__law_choices : ∀ W ds Q R, sp__law_choices W ds Q R → ds.length = 2 := by
  rintro W ds Q R ⟨f, j, b, n, rfl, _⟩
  rfl
theorem law__law_choices : ∀ W ds Q R, sp__law_choices W ds Q R → g__law_choices W R (endsD Q) (startD 6 ds) := by
  rintro W ds Q R ⟨f, j, b, n, rfl, j0, j4, hf, hn, q⟩
  unfold g__law_choices
  ((conv => whnf); repeat decreasing_trivial_pre_omega)
  refine forL_in ?_
  refine forG_inv (fun ds σ => ∃ (K C : List Int) (L : List D) (x y z : SV), [1, 2, 3, 4] = C ++ K ∧ ds = K.map D.int ∧ σ = [.d (eg f j), .d (.bl b), .ol L, x, y, z] ∧ L.length ≤ C.length ∧ ∀ x ∈ L, IsT (n + 1) x) ?_ ?_ _ _ ⟨[1, 2, 3, 4], [], [], _, _, _, rfl, rfl, rfl, by decide, fun _ h => by cases h⟩
  · rintro σ ⟨K, C, L, x, y, z, e4, eK, rfl, hL, hT⟩
    have e0 := List.map_eq_nil_iff.mp eK.symm
    subst e0
    rw [List.append_nil] at e4
    ((conv => whnf); repeat decreasing_trivial_pre_omega)
    exact q L hT (by rw [← e4] at hL; exact hL)
  · rintro v vs σ ⟨K, C, L, x, y, z, e4, eK, rfl, hL, hT⟩ E' hrt hbk hnx hct
    obtain ⟨k, K', rfl⟩ : ∃ k K', K = k :: K' := by
      cases K with
      | nil => cases eK
      | cons n K' => exact ⟨n, K', rfl⟩
    obtain ⟨rfl, rfl⟩ := List.cons.inj eK
    have hk : k ∈ ([1, 2, 3, 4] : List Int) := by rw [e4]; simp
    have hk : 1 ≤ k ∧ k ≤ 4 := by
      simp only [List.mem_cons, List.not_mem_nil, or_false] at hk
      omega
    have hC : C.length < 4 := by
      have := congrArg List.length e4
      rw [List.length_append, List.length_cons] at this
      simp at this
      omega
    have nx0 := fun x y z => hnx [.d (eg f j), .d (.bl b), .ol L, x, y, z] ⟨K', C ++ [k], L, x, y, z, by rw [e4]; simp, rfl, rfl, by rw [List.length_append]; omega, hT⟩
    have nx1 := fun t (ht : IsT (n + 1) t) x y z => hnx [.d (eg f j), .d (.bl b), .ol (L ++ [t]), x, y, z] ⟨K', C ++ [k], L ++ [t], x, y, z, by rw [e4]; simp, rfl, rfl, by rw [List.length_append, List.length_append]; simpa using hL, fun x hx => by
      rcases List.mem_append.mp hx with hx | hx
      · exact hT x hx
      · rw [List.mem_singleton.mp hx]
        exact ht⟩
    have hLs : L.length < sizeLine := lsz (by omega)
    ((conv => whnf); repeat decreasing_trivial_pre_omega)
    split
    · ((conv => whnf); repeat decreasing_trivial_pre_omega)
      split
      · rename_i h
        have h : inb (.int [f 0, f 1, f 2, f 3, f 4].sum) [.int 1, .int 2] = true := h
        rw [sum_l, inb2] at h
        ((conv => whnf); repeat decreasing_trivial_pre_omega)
        exact ⟨hLs, nx1 _ ⟨_, _, _, rfl, szf_mono hf (by omega), tl_mk j0 j4 (by omega) (by omega) (by omega) (of_decide_eq_true h)⟩ _ _ _⟩
      · ((conv => whnf); repeat decreasing_trivial_pre_omega)
        exact nx0 _ _ _
    · ((conv => whnf); repeat decreasing_trivial_pre_omega)
      refine ⟨by omega, by omega, ?_⟩
      ((conv => whnf); repeat decreasing_trivial_pre_omega)
      split
      · rename_i h
        have h : inb (.int [rz f ((j + k) % 5) (-1) 0, rz f ((j + k) % 5) (-1) 1, rz f ((j + k) % 5) (-1) 2, rz f ((j + k) % 5) (-1) 3, rz f ((j + k) % 5) (-1) 4].sum) [.int 1, .int 2] = true := h
        rw [sum_l (rz f ((j + k) % 5) (-1)), inb2] at h
        ((conv => whnf); repeat decreasing_trivial_pre_omega)
        exact ⟨hLs, nx1 _ ⟨_, _, _, rfl, hf.rz hn (by decide) (by decide), tl_mk j0 j4 (by omega) (by omega) (by omega) (of_decide_eq_true h)⟩ _ _ _⟩
      · ((conv => whnf); repeat decreasing_trivial_pre_omega)
        exact nx0 _ _ _
def l5 (x : Int → D) : List D := [x 0, x 1, x 2, x 3, x 4]
theorem l5_ixn {x : Int → D} {k : Int} (k0 : -5 ≤ k) (k4 : k ≤ 4) {Q : D → Prop} (q : Q (x (k % 5))) : ixD (.lst (l5 x)) (.int k) Q := by
  have h : k = -5 ∨ k = -4 ∨ k = -3 ∨ k = -2 ∨ k = -1 ∨ k = 0 ∨ k = 1 ∨ k = 2 ∨ k = 3 ∨ k = 4 := by omega
  rcases h with h | h | h | h | h | h | h | h | h | h <;> subst h <;> exact ⟨_, rfl, q⟩
theorem l5_set {x : Int → Int} {k : Int} (k0 : 0 ≤ k) (k4 : k ≤ 4) (u : Int) : (l5 fun i => .int (x i)).set k.toNat (.int (x k + u)) = l5 fun i => .int (rz x k u i) := by
  rcases five_of k0 k4 with h | h | h | h | h <;> subst h <;> simp [l5, rz]
theorem ix5 {k : Int} (k0 : 0 ≤ k) (k4 : k ≤ 4) (x : Int → D) : ixN (l5 x).length k = some k.toNat := by
  rcases five_of k0 k4 with h | h | h | h | h <;> subst h <;> rfl
def drN (r s r' s' : Int) : Nat → Int
  | 0 => r
  | 1 => s
  | 2 => r'
  | _ => s'
def awP (f g : Int → Int) (r s r' s' : Int) : Nat → Int → Int
  | 0 => fun i => 2 * (g i - f i)
  | n + 1 => rz (awP f g r s r' s' n) (drN r s r' s' n) (if n > 1 then 1 else -1)
def wsA (r s r' s' d : Int) : Nat → Int
  | 0 => 0
  | n + 1 => wsA r s r' s' d n + wdA d (drN r s r' s' n)
def wsB (r s r' s' d : Int) : Nat → Int
  | 0 => 0
  | n + 1 => wsB r s r' s' d n + wdB d (drN r s r' s' n)
theorem ws_4 (r s r' s' d : Int) : wsA r s r' s' d 4 = wA d r s r' s' ∧ wsB r s r' s' d 4 = wB d r s r' s' := by
  constructor
  · show 0 + wdA d r + wdA d s + wdA d r' + wdA d s' = wA d r s r' s'
    unfold wA
    omega
  · show 0 + wdB d r + wdB d s + wdB d r' + wdB d s' = wB d r s r' s'
    unfold wB
    omega
theorem pt_abs {A B w v : Int} : (decide (0 ≤ psg (A - w) (B - v)) || decide (0 ≤ psg (-A - w) (-B - v))) = if psg A B < 0 then decide (0 ≤ psg (-A - w) (-B - v)) else decide (0 ≤ psg (A - w) (B - v)) := by
  split
  · rename_i h
    have n : Nn (-A) (-B) := by
      refine nn_of ?_
      rw [psg_neg]
      omega
    have k : 0 ≤ psg (A - w) (B - v) → 0 ≤ psg (-A - w) (-B - v) := fun z => by
      have := of_nn (((nn_of z).add n).add n)
      rw [show A - w + -A + -A = -A - w by omega, show B - v + -B + -B = -B - v by omega] at this
      exact this
    by_cases z : 0 ≤ psg (-A - w) (-B - v)
    · rw [decide_eq_true z, Bool.or_true]
    · rw [decide_eq_false z, decide_eq_false fun y => z (k y)]
      rfl
  · rename_i h
    have n : Nn A B := nn_of (by omega)
    have k : 0 ≤ psg (-A - w) (-B - v) → 0 ≤ psg (A - w) (B - v) := fun z => by
      have := of_nn (((nn_of z).add n).add n)
      rw [show -A - w + A + A = A - w by omega, show -B - v + B + B = B - v by omega] at this
      exact this
    by_cases z : 0 ≤ psg (A - w) (B - v)
    · rw [decide_eq_true z, Bool.true_or]
    · rw [decide_eq_false z, decide_eq_false fun y => z (k y)]
      rfl
theorem four_mem {n : Nat} (h : n < 4) : n ∈ four := by simp; omega
theorem dr_rng {f g : Int → Int} {r s r' s' : Int} (T : TileD (tl f r s) f r s) (T' : TileD (tl g r' s') g r' s') (n : Nat) : 0 ≤ drN r s r' s' n ∧ drN r s r' s' n ≤ 4 := by
  obtain ⟨_, k, r0, rs, s4⟩ := T
  obtain ⟨_, k', r0', rs', s4'⟩ := T'
  match n with
  | 0 => exact ⟨r0, by show r ≤ 4; omega⟩
  | 1 => exact ⟨by show 0 ≤ s; omega, s4⟩
  | 2 => exact ⟨r0', by show r' ≤ 4; omega⟩
  | n + 3 => exact ⟨by show 0 ≤ s'; omega, s4'⟩
def ptO (f : Int → Int) (r s : Int) (g : Int → Int) (r' s' : Int) (n : Nat) : Option D := if ptD f r s g r' s' (drN r s r' s' n) = true then some (.bl false) else none
theorem sz_w (d r s r' s' : Int) : Sz 20 (wA d r s r' s') ∧ Sz 20 (wB d r s r' s') := by
  have a : ∀ j, 0 ≤ wdA d j ∧ wdA d j ≤ 1 := fun j => by
    unfold wdA
    (repeat' split) <;> decide
  have b : ∀ j, 0 ≤ wdB d j ∧ wdB d j ≤ 1 := fun j => by
    unfold wdB
    (repeat' split) <;> decide
  have a1 := a r
  have a2 := a s
  have a3 := a r'
  have a4 := a s'
  have b1 := b r
  have b2 := b s
  have b3 := b r'
  have b4 := b s'
  unfold wA wB
  exact ⟨Sz.small (by omega) (by omega), Sz.small (by omega) (by omega)⟩
theorem len__law_do_overlap : ∀ W ds Q R, sp__law_do_overlap W ds Q R → ds.length = 2 := by
  rintro W ds Q R ⟨f, r, s, g, r', s', rfl, _⟩
  rfl
theorem law__law_do_overlap : ∀ W ds Q R, sp__law_do_overlap W ds Q R → g__law_do_overlap W R (endsD Q) (startD 11 ds) := by
  rintro W ds Q R ⟨f, r, s, g, r', s', rfl, T, T', hf, hg, q⟩
  have z2 : Sz 2 (2 : Int) := by decide
  have m2 : ∀ i : Int, 0 ≤ i → i ≤ 4 → ND.MulOk 2 (g i - f i) := fun i i0 i4 => z2.ok ((hg i i0 i4).sub (hf i i0 i4)) (by decide)
  unfold g__law_do_overlap
  refine seq_mid (P := fun σ => σ = [.d (tl f r s), .d (tl g r' s'), .d (.tup [.int r, .int s, .int r', .int s']), .no, .no, .no, .no, .no, .no, .no, .no]) ?rest1 ?head1
  case head1 =>
    rintro E0 ert nx0
    ((conv => whnf); repeat decreasing_trivial_pre_omega)
    exact nx0 _ rfl
  rintro σ rfl
  refine seq_mid (P := fun σ => σ = [.d (tl f r s), .d (tl g r' s'), .d (.tup [.int r, .int s, .int r', .int s']), .ol (l5 fun i => .int (awP f g r s r' s' 0 i)), .no, .no, .no, .no, .no, .no, .no]) ?rest2 ?head2
  case head2 =>
    rintro E0 ert nx0
    ((conv => whnf); repeat decreasing_trivial_pre_omega)
    refine Or.inl ⟨_, _, rfl, ?_⟩
    ((conv => whnf); repeat decreasing_trivial_pre_omega)
    refine ⟨m2 0 (by decide) (by decide), ?_⟩
    ((conv => whnf); repeat decreasing_trivial_pre_omega)
    refine ⟨m2 1 (by decide) (by decide), ?_⟩
    ((conv => whnf); repeat decreasing_trivial_pre_omega)
    refine ⟨m2 2 (by decide) (by decide), ?_⟩
    ((conv => whnf); repeat decreasing_trivial_pre_omega)
    refine ⟨m2 3 (by decide) (by decide), ?_⟩
    ((conv => whnf); repeat decreasing_trivial_pre_omega)
    refine ⟨m2 4 (by decide) (by decide), ?_⟩
    ((conv => whnf); repeat decreasing_trivial_pre_omega)
    exact nx0 _ rfl
  rintro σ rfl
  refine seq_mid (P := fun σ => ∃ x y, σ = [.d (tl f r s), .d (tl g r' s'), .d (.tup [.int r, .int s, .int r', .int s']), .ol (l5 fun i => .int (awF f r s g r' s' i)), x, y, .no, .no, .no, .no, .no]) ?rest3 ?head3
  case head3 =>
    rintro E0 ert nx0
    ((conv => whnf); repeat decreasing_trivial_pre_omega)
    refine forL_in ?_
    refine forG_inv (fun ds σ => ∃ (n : Nat) (x y : SV), n ≤ 4 ∧ ds = (four.drop n).map (fun n => .tup [.int (n : Int), .int (drN r s r' s' n)]) ∧ σ = [.d (tl f r s), .d (tl g r' s'), .d (.tup [.int r, .int s, .int r', .int s']), .ol (l5 fun i => .int (awP f g r s r' s' n i)), x, y, .no, .no, .no, .no, .no]) ?_ ?_ _ _ ⟨0, _, _, by decide, rfl, rfl⟩
    · rintro σ ⟨n, x, y, hn, ed, rfl⟩
      have e0 := congrArg List.length ed
      rw [List.length_map, List.length_drop] at e0
      have : n = 4 := by simp at e0; omega
      subst this
      exact nx0 _ ⟨_, _, rfl⟩
    · rintro z zs σ ⟨n, x, y, hn, ed, rfl⟩ E' hrt hbk hnx hct
      have e0 := congrArg List.length ed
      rw [List.length_map, List.length_drop] at e0
      have hn4 : n < 4 := by simp at e0; omega
      rw [List.drop_eq_getElem_cons (by simpa using hn4), List.map_cons, show four[n]'(by simpa using hn4) = n by rcases four_or (four_mem hn4) with rfl | rfl | rfl | rfl <;> rfl] at ed
      obtain ⟨rfl, rfl⟩ := List.cons.inj ed
      obtain ⟨d0, d4⟩ := dr_rng T T' n
      have nx1 := fun x y => hnx [.d (tl f r s), .d (tl g r' s'), .d (.tup [.int r, .int s, .int r', .int s']), .ol (l5 fun i => .int (awP f g r s r' s' (n + 1) i)), x, y, .no, .no, .no, .no, .no] ⟨n + 1, x, y, hn4, rfl, rfl⟩
      have ea : ∀ u : Int, (if n > 1 then (1 : Int) else -1) = u → (l5 fun i => D.int (awP f g r s r' s' n i)).set (drN r s r' s' n).toNat (.int (awP f g r s r' s' n (drN r s r' s' n) + u)) = l5 fun i => .int (awP f g r s r' s' (n + 1) i) := fun u hu => by
        rw [l5_set d0 d4, ← hu]
        rfl
      ((conv => whnf); repeat decreasing_trivial_pre_omega)
      refine l5_ixn (by omega) d4 ?_
      rw [Int.emod_eq_of_lt d0 (by omega)]
      ((conv => whnf); repeat decreasing_trivial_pre_omega)
      split
      · rename_i h
        have h : decide ((n : Int) > 1) = true := h
        have h := of_decide_eq_true h
        ((conv => whnf); repeat decreasing_trivial_pre_omega)
        refine ⟨drN r s r' s' n, (drN r s r' s' n).toNat, rfl, ix5 d0 d4 _, ?_⟩
        ((conv => whnf); repeat decreasing_trivial_pre_omega)
        rw [ea 1 (by rw [if_pos (by omega)])]
        exact nx1 _ _
      · rename_i h
        have h : decide ((n : Int) > 1) = false := h
        have h := of_decide_eq_false h
        ((conv => whnf); repeat decreasing_trivial_pre_omega)
        refine ⟨drN r s r' s' n, (drN r s r' s' n).toNat, rfl, ix5 d0 d4 _, ?_⟩
        ((conv => whnf); repeat decreasing_trivial_pre_omega)
        rw [ea (-1) (by rw [if_neg (by omega)])]
        exact nx1 _ _
  rintro σ ⟨x, y, rfl⟩
  have szw : Szf 400 (awF f r s g r' s') := by
    have h0 : Szf 380 (fun i => 2 * (g i - f i)) := fun i i0 i4 => (z2.mul ((hg i i0 i4).sub (hf i i0 i4))).mono (by decide)
    exact szf_mono ((((h0.rz (by decide) (by decide) (by decide)).rz (by decide) (by decide) (by decide)).rz (by decide) (by decide) (by decide)).rz (by decide) (by decide) (by decide)) (by decide)
  refine seq_mid (P := fun σ => ovl f r s g r' s' = true ∧ True) ?rest4 ?head4
  case rest4 =>
    rintro σ ⟨h, _⟩
    rw [h] at q
    ((conv => whnf); repeat decreasing_trivial_pre_omega)
    exact q
  case head4 =>
    rintro E0 ert nx0
    have ert : E0.rt = Q := ert
    ((conv => whnf); repeat decreasing_trivial_pre_omega)
    refine forL_in ?_
    refine forG_find (fun n : Nat => .int (drN r s r' s' n)) (ptO f r s g r' s') (fun σ => ∃ x y a b c u v, σ = [.d (tl f r s), .d (tl g r' s'), .d (.tup [.int r, .int s, .int r', .int s']), .ol (l5 fun i => .int (awF f r s g r' s' i)), x, y, a, b, c, u, v]) four _ ⟨_, _, _, _, _, _, _, rfl⟩ (fun v ev => ?_) (fun ev => ?_) ?_
    · obtain ⟨n, hn, e1⟩ := List.exists_of_findSome?_eq_some ev
      unfold ptO at e1
      split at e1
      · rename_i k
        cases e1
        rw [ert]
        have : ovl f r s g r' s' = false := by
          unfold ovl
          rcases four_or hn with rfl | rfl | rfl | rfl <;> (simp only [drN] at k; rw [k]; simp)
        rw [this] at q
        exact q
      · cases e1
    · rintro σ _
      refine nx0 σ ⟨?_, trivial⟩
      have k : ∀ n ∈ four, ptD f r s g r' s' (drN r s r' s' n) = false := fun n hn => by
        have h1 := List.findSome?_eq_none_iff.mp ev n hn
        unfold ptO at h1
        split at h1
        · cases h1
        · rename_i k
          simpa using k
      have k0 := k 0 (by simp)
      have k1 := k 1 (by simp)
      have k2 := k 2 (by simp)
      have k3 := k 3 (by simp)
      simp only [drN] at k0 k1 k2 k3
      unfold ovl
      rw [k0, k1, k2, k3]
      rfl
    · rintro n hn σ ⟨x, y, a, b, c, u, v, rfl⟩ E' hrt hv hnx hct
      obtain ⟨d0, d4⟩ := dr_rng T T' n
      unfold ptO ptD at hv hnx
      generalize drN r s r' s' n = d at *
      generalize awF f r s g r' s' = w at *
      have eA : w ((d - 3) % 5) - w ((d - 2) % 5) = frA w d := by
        unfold frA
        rw [show (d - 3) % 5 = (d + 2) % 5 by omega]
      have eB : w ((d - 4) % 5) - w ((d - 1) % 5) = nrA w d := by
        unfold nrA
        rw [show (d - 4) % 5 = (d + 1) % 5 by omega]
      have sA : Sz 1000 (frA w d) := ((szw _ (by omega) (by omega)).sub (szw _ (by omega) (by omega))).mono (by decide)
      have sB : Sz 1000 (nrA w d) := ((szw _ (by omega) (by omega)).sub (szw _ (by omega) (by omega))).mono (by decide)
      ((conv => whnf); repeat decreasing_trivial_pre_omega)
      refine l5_ixn (by omega) (by omega) ?_
      ((conv => whnf); repeat decreasing_trivial_pre_omega)
      refine l5_ixn (by omega) (by omega) ?_
      ((conv => whnf); repeat decreasing_trivial_pre_omega)
      refine l5_ixn (by omega) (by omega) ?_
      ((conv => whnf); repeat decreasing_trivial_pre_omega)
      refine l5_ixn (by omega) (by omega) ?_
      conv => whnf
      rw [eA, eB]
      refine ⟨rfl, ?_⟩
      dsimp only
      refine seq_mid (P := fun σ => ∃ A B x y u v, σ = [.d (tl f r s), .d (tl g r' s'), .d (.tup [.int r, .int s, .int r', .int s']), .ol (l5 fun i => .int (w i)), x, y, .d (.int d), .d (.int A), .d (.int B), u, v] ∧ (Sz 1000 A ∧ Sz 1000 B) ∧ ∀ a b, decide (0 ≤ psg (A - a) (B - b)) = (decide (0 ≤ psg (frA w d - a) (nrA w d - b)) || decide (0 ≤ psg (-frA w d - a) (-nrA w d - b)))) ?_ ?_
      rotate_left
      · rintro E1 ert1 nx1
        conv => whnf
        refine ⟨_, _, rfl, sA.mono (by decide), sB.mono (by decide), ?_⟩
        conv => whnf
        by_cases h : psg (frA w d) (nrA w d) < 0
        · rw [decide_eq_true h]
          ((conv => whnf); repeat decreasing_trivial_pre_omega)
          exact nx1 _ ⟨_, _, _, _, _, _, rfl, ⟨sA.neg, sB.neg⟩, fun a b => by rw [pt_abs, if_pos h]⟩
        · rw [decide_eq_false h]
          ((conv => whnf); repeat decreasing_trivial_pre_omega)
          exact nx1 _ ⟨_, _, _, _, _, _, rfl, ⟨sA, sB⟩, fun a b => by rw [pt_abs, if_neg h]⟩
      rintro σ ⟨A, B, x, y, u, v, rfl, ⟨sA2, sB2⟩, fin⟩
      refine seq_mid (P := fun σ => ∃ x y u v, σ = [.d (tl f r s), .d (tl g r' s'), .d (.tup [.int r, .int s, .int r', .int s']), .ol (l5 fun i => .int (w i)), x, y, .d (.int d), .d (.int (A - wA d r s r' s')), .d (.int (B - wB d r s r' s')), u, v]) ?_ ?_
      rotate_left
      · rintro E1 ert1 nx1
        conv => whnf
        refine forL_in ?_
        refine forG_inv (fun ds σ => ∃ (n : Nat) (x y u v : SV), n ≤ 4 ∧ ds = (four.drop n).map (fun n => .int (drN r s r' s' n)) ∧ σ = [.d (tl f r s), .d (tl g r' s'), .d (.tup [.int r, .int s, .int r', .int s']), .ol (l5 fun i => .int (w i)), x, y, .d (.int d), .d (.int (A - wsA r s r' s' d n)), .d (.int (B - wsB r s r' s' d n)), u, v]) ?_ ?_ _ _ ⟨0, _, _, _, _, by decide, rfl, by rw [show wsA r s r' s' d 0 = 0 from rfl, show wsB r s r' s' d 0 = 0 from rfl, Int.sub_zero, Int.sub_zero]⟩
        · rintro σ ⟨n, x, y, u, v, hn, ed, rfl⟩
          have e0 := congrArg List.length ed
          rw [List.length_map, List.length_drop] at e0
          have : n = 4 := by simp at e0; omega
          subst this
          rw [(ws_4 r s r' s' d).1, (ws_4 r s r' s' d).2]
          exact nx1 _ ⟨_, _, _, _, rfl⟩
        · rintro z zs σ ⟨n, x, y, u, v, hn, ed, rfl⟩ E2 hrt2 hbk2 hnx2 hct2
          have e0 := congrArg List.length ed
          rw [List.length_map, List.length_drop] at e0
          have hn4 : n < 4 := by simp at e0; omega
          rw [List.drop_eq_getElem_cons (by simpa using hn4), List.map_cons, show four[n]'(by simpa using hn4) = n by rcases four_or (four_mem hn4) with rfl | rfl | rfl | rfl <;> rfl] at ed
          obtain ⟨rfl, rfl⟩ := List.cons.inj ed
          have nx2 := fun x y u v => hnx2 [.d (tl f r s), .d (tl g r' s'), .d (.tup [.int r, .int s, .int r', .int s']), .ol (l5 fun i => .int (w i)), x, y, .d (.int d), .d (.int (A - wsA r s r' s' d (n + 1))), .d (.int (B - wsB r s r' s' d (n + 1))), u, v] ⟨n + 1, x, y, u, v, hn4, rfl, rfl⟩
          have ia : A - wsA r s r' s' d n - (if (if false = true then !inb (.int (if drN r s r' s' n - d < 0 then -(drN r s r' s' n - d) else drN r s r' s' n - d)) [.int 2, .int 3] else inb (.int (if drN r s r' s' n - d < 0 then -(drN r s r' s' n - d) else drN r s r' s' n - d)) [.int 2, .int 3]) = true then 1 else 0) = A - wsA r s r' s' d (n + 1) := by
            rw [if_neg (show ¬ false = true by decide), inb2]
            show _ = A - (wsA r s r' s' d n + wdA d (drN r s r' s' n))
            unfold wdA
            simp only [decide_eq_true_eq]
            omega
          have ib : B - wsB r s r' s' d n - (if (if false = true then !inb (.int (if drN r s r' s' n - d < 0 then -(drN r s r' s' n - d) else drN r s r' s' n - d)) [.int 1, .int 4] else inb (.int (if drN r s r' s' n - d < 0 then -(drN r s r' s' n - d) else drN r s r' s' n - d)) [.int 1, .int 4]) = true then 1 else 0) = B - wsB r s r' s' d (n + 1) := by
            rw [if_neg (show ¬ false = true by decide), inb2]
            show _ = B - (wsB r s r' s' d n + wdB d (drN r s r' s' n))
            unfold wdB
            simp only [decide_eq_true_eq]
            omega
          ((conv => whnf); repeat decreasing_trivial_pre_omega)
          have k := nx2 x (.d (.int (drN r s r' s' n))) u v
          rw [← ia, ← ib] at k
          exact k
      rintro σ ⟨x, y, u, v, rfl⟩
      have fn := fin (wA d r s r' s') (wB d r s r' s')
      rw [← fn] at hv hnx
      have sa : Sz 2000 (A - wA d r s r' s') := (sA2.sub ((sz_w d r s r' s').1.mono (by decide))).mono (by decide)
      have sb : Sz 2000 (B - wB d r s r' s') := (sB2.sub ((sz_w d r s r' s').2.mono (by decide))).mono (by decide)
      conv => whnf
      refine ⟨_, _, rfl, sa.mono (by decide), sb.mono (by decide), ?_⟩
      conv => whnf
      by_cases h : 0 ≤ psg (A - wA d r s r' s') (B - wB d r s r' s')
      · rw [show decide (psg (A - wA d r s r' s') (B - wB d r s r' s') ≥ 0) = true from decide_eq_true h]
        rw [decide_eq_true h] at hv
        ((conv => whnf); repeat decreasing_trivial_pre_omega)
        exact (congrFun hrt _).mpr (hv _ rfl)
      · rw [show decide (psg (A - wA d r s r' s') (B - wB d r s r' s') ≥ 0) = false from decide_eq_false h]
        rw [decide_eq_false h] at hnx
        ((conv => whnf); repeat decreasing_trivial_pre_omega)
        exact hnx rfl _ ⟨_, _, _, _, _, _, _, rfl⟩
theorem len__law_is_integer : ∀ W ds Q R, sp__law_is_integer W ds Q R → ds.length = 1 := by
  rintro W ds Q R ⟨x, rfl, _⟩
  rfl
theorem law__law_is_integer : ∀ W ds Q R, sp__law_is_integer W ds Q R → g__law_is_integer W R (endsD Q) (startD 1 ds) := by
  rintro W ds Q R ⟨x, rfl, h, q⟩
  simp [g__law_is_integer, startD]
  cases x <;> simp_all [TyK, isiB, tyD, isTb, isI]
theorem len__law_great : ∀ W ds Q R, sp__law_great W ds Q R → ds.length = 1 := by
  rintro W ds Q R ⟨d, l, rfl, rfl, _⟩
  rfl
theorem law__law_great : ∀ W ds Q R, sp__law_great W ds Q R → g__law_great W R (endsD Q) (startD 3 ds) := by
  rintro W ds Q R ⟨d, l, rfl, rfl, q⟩
  unfold g__law_great
  conv => whnf
  refine ⟨5, rfl, by decide, by decide, ?_⟩
  refine forL_in ?_
  refine forG_rng (S := fun j σ => ∃ v s4, 0 ≤ v ∧ v < 10 ^ (6 * j) ∧ σ = [.d (dkD d), .d (.int v), s4]) 0 5 _ ⟨0, _, by decide, by simp, rfl⟩ ?_ ?_
  · rintro σ ⟨v, s4, v0, v1, rfl⟩
    have hv : Sz 100 v := ten_sz v0 v1
    conv => whnf
    refine ⟨_, _, _, rfl, rfl, by first | decide | omega, by first | decide | omega, fun r r0 r1 => ?_⟩
    conv => whnf
    by_cases h : r = 0
    · rw [show eqb (.int r) (.int 0) = true from decide_eq_true h]
      ((conv => whnf); repeat decreasing_trivial_pre_omega)
      exact q _ (hv.mono (by decide))
    · rw [show eqb (.int r) (.int 0) = false from decide_eq_false h]
      ((conv => whnf); repeat decreasing_trivial_pre_omega)
      refine q _ ?_
      unfold Sz at *
      omega
  · rintro j hj σ ⟨v, s4, v0, v1, rfl⟩ E' hrt hnx hct
    conv => whnf
    refine ⟨by decide, by decide, by decide, ?_⟩
    rw [show (10 : Int) ^ Int.toNat 6 = 1000000 by decide]
    conv => whnf
    refine ⟨(ten_sz v0 v1).ok (m := 20) (show (1000000 : Int).natAbs < 2 ^ 20 by decide) (by omega), ?_⟩
    conv => whnf
    refine ⟨by decide, by decide, by decide, ?_⟩
    rw [show (10 : Int) ^ Int.toNat 6 = 1000000 by decide]
    conv => whnf
    refine ⟨_, _, _, rfl, rfl, by first | decide | omega, by first | decide | omega, fun r r0 r1 => ?_⟩
    refine hnx _ ⟨v * 1000000 + r, _, by omega, ?_, rfl⟩
    have e : (10 : Int) ^ (6 * (j + 1)) = 10 ^ (6 * j) * 1000000 := by
      rw [Nat.mul_add, Int.pow_add]
      rfl
    rw [e]
    omega
theorem lc_some {gt : GG} {fe : GE} {own : List Nat} {σ : List SV} {Q : List D → Prop} (P : D → Prop) : ∀ (xs acc : List D), (∀ x ∈ xs, ∀ A : D → Prop, (∀ y, P y → A y) → gt x (wipeD σ own) fun σ2 => fe σ2 A) → acc.length + xs.length ≤ sizeLine → (∀ ys : List D, ys.length = xs.length → (∀ y ∈ ys, P y) → Q (acc ++ ys)) → lcG gt gYes fe own σ Q xs acc
  | [], acc, _, _, q => by
    have := q [] rfl fun _ h => by cases h
    rw [List.append_nil] at this
    exact this
  | x :: xs, acc, k, hl, q => by
    rw [List.length_cons] at hl
    exact k x List.mem_cons_self _ fun y hy => ⟨by omega, lc_some P xs (acc ++ [y]) (fun z hz => k z (List.mem_cons_of_mem _ hz)) (by rw [List.length_append]; simp; omega) fun ys e h => by
      rw [List.append_assoc]
      exact q (y :: ys) (by rw [List.length_cons, List.length_cons, e]) fun z hz => by
        rcases List.mem_cons.mp hz with rfl | hz
        · exact hy
        · exact h z hz⟩
def oddL : List D := [.non, .bl true, .int 0, .int (-1), .int (10 ^ 60), .str "", .str "tile", .tup [], .lst [], .dic [], .tup [.int 0, .int 0, .int 0, .int 0, .int 1], .tup [.str "a"], .tup [.tup []], .lst [.lst []], .dic [(.inr "tile", .tup [.int 1])],
  .tup [.tup [.int 0, .int 0, .int 0, .int 0, .int 1], .tup [.int 0, .int 1]], .tup [.tup [.tup [.int 0, .int 0, .int 0, .int 0, .int 1], .int 0, .int 1], .int 2, .int 3], .str "((0, 0, 0, 0, 1), 0, 1)"]
theorem odd_all : (oddL.all fun y => rp 7 y && (sm (2 ^ 260) y && decide (rsz y ≤ 470000))) = true := by decide +kernel
theorem odd_pk : ∀ x ∈ oddL, Pk x := fun x hx => by
  have h := List.all_eq_true.mp odd_all x hx
  simp only [Bool.and_eq_true, decide_eq_true_eq] at h
  exact ⟨h.1, h.2.1, h.2.2⟩
theorem len__law_odd : ∀ W ds Q R, sp__law_odd W ds Q R → ds.length = 1 := by
  rintro W ds Q R ⟨d, l, rfl, rfl, _⟩
  rfl
theorem law__law_odd : ∀ W ds Q R, sp__law_odd W ds Q R → g__law_odd W R (endsD Q) (startD 2 ds) := by
  rintro W ds Q R ⟨d, l, rfl, rfl, q⟩
  unfold g__law_odd
  ((conv => whnf); repeat decreasing_trivial_pre_omega)
  exact ⟨d, l, oddL, rfl, .inl rfl, by decide, by decide, fun x hx => q x (odd_pk x hx)⟩
theorem len__law_any_tile : ∀ W ds Q R, sp__law_any_tile W ds Q R → ds.length = 1 := by
  rintro W ds Q R ⟨d, l, rfl, rfl, _⟩
  rfl
theorem law__law_any_tile : ∀ W ds Q R, sp__law_any_tile W ds Q R → g__law_any_tile W R (endsD Q) (startD 5 ds) := by
  rintro W ds Q R ⟨d, l, rfl, rfl, q⟩
  unfold g__law_any_tile
  conv => whnf
  refine ⟨4, rfl, by decide, by decide, ?_⟩
  refine lc_some (fun y => ∃ i, y = .int i ∧ Sz 101 i) _ [] (fun x hx A hA => ?_) (by decide) fun ys hl hy => ?_
  · conv => whnf
    refine ⟨_, _, _, rfl, rfl, by first | decide | omega, by first | decide | omega, fun r r0 r1 => ?_⟩
    conv => whnf
    refine ⟨rfl, rfl, ?_⟩
    by_cases h : r = 0
    · rw [show eqb (.int r) (.int 0) = true from decide_eq_true h]
      conv => whnf
      exact ⟨d, l, rfl, rfl, fun i hi => hA _ ⟨i, rfl, hi⟩⟩
    · rw [show eqb (.int r) (.int 0) = false from decide_eq_false h]
      conv => whnf
      refine ⟨_, _, _, rfl, rfl, by first | decide | omega, by first | decide | omega, fun t t0 t1 => ?_⟩
      exact hA _ ⟨_, rfl, (Sz.small (by omega) (by omega)).mono (by decide)⟩
  · obtain ⟨a, b, c, e, rfl⟩ : ∃ a b c e, ys = [a, b, c, e] := by
      match ys, hl with
      | [a, b, c, e], _ => exact ⟨a, b, c, e, rfl⟩
    obtain ⟨a, rfl, ha⟩ := hy a (by simp)
    obtain ⟨b, rfl, hb⟩ := hy b (by simp)
    obtain ⟨c, rfl, hc⟩ := hy c (by simp)
    obtain ⟨e, rfl, he⟩ := hy e (by simp)
    conv => whnf
    refine ⟨_, _, _, rfl, rfl, by first | decide | omega, by first | decide | omega, fun x x0 x1 => ?_⟩
    conv => whnf
    refine ⟨[a, b, c, e], rfl, ?_⟩
    rw [show [a, b, c, e].sum = a + (b + (c + e)) by simp]
    have hu : Sz 110 (1 + x - (a + (b + (c + e)))) := by
      unfold Sz at *
      omega
    obtain ⟨u, hue⟩ : ∃ u, 1 + x - (a + (b + (c + e))) = u := ⟨_, rfl⟩
    rw [hue] at hu
    have hs : sum5 (at5 a b c e u) = 1 ∨ sum5 (at5 a b c e u) = 2 := by
      have : sum5 (at5 a b c e u) = a + b + c + e + u := rfl
      omega
    have hz : Szf 110 (at5 a b c e u) := fun i i0 i4 => by
      rcases five_of i0 i4 with h | h | h | h | h <;> subst h
      · exact ha.mono (by decide)
      · exact hb.mono (by decide)
      · exact hc.mono (by decide)
      · exact he.mono (by decide)
      · exact hu.mono (by decide)
    conv => whnf
    rw [hue]
    refine ⟨lsz' (by simp), ?_⟩
    conv => whnf
    refine ⟨lsz' (by simp), ?_⟩
    conv => whnf
    refine ⟨_, _, _, rfl, rfl, by first | decide | omega, by first | decide | omega, fun j j0 j1 => ?_⟩
    conv => whnf
    refine ⟨rfl, ?_⟩
    conv => whnf
    refine ⟨_, _, _, rfl, rfl, by first | decide | omega, by first | decide | omega, fun t t0 t1 => ?_⟩
    conv => whnf
    refine ⟨by omega, ?_⟩
    conv => whnf
    refine ⟨lsz' (by simp), ?_⟩
    have tt := tl_mk (h := at5 a b c e u) (j := j) (t := (j + 1 + t) % 5) j0 (by omega) (by omega) (by omega) (by omega) hs
    exact q _ ⟨at5 a b c e u, _, _, rfl, hz, tt⟩
theorem len__law_near : ∀ W ds Q R, sp__law_near W ds Q R → ds.length = 2 := by
  rintro W ds Q R ⟨d, l, x, n, rfl, rfl, _⟩
  rfl
theorem law__law_near : ∀ W ds Q R, sp__law_near W ds Q R → g__law_near W R (endsD Q) (startD 6 ds) := by
  rintro W ds Q R ⟨d, l, _, n, rfl, rfl, ⟨f, r, s, rfl, hf, T⟩, hn, q⟩
  have r0 := T.r0
  have rs := T.rs
  have s4 := T.s4
  have e1 := rz_sum (f := f) (j := s) (u := 1) (by omega) s4
  have e2 := rz_sum (f := f) (j := r) (u := 1) r0 (by omega)
  have e3 := rz_sum (f := rz f r 1) (j := s) (u := 1) (by omega) s4
  have k12 := T.k
  unfold g__law_near
  conv => whnf
  refine ⟨f, r, s, rfl, T, ?_⟩
  conv => whnf
  refine ⟨d, l, _, rfl, .inl rfl, by simp, by simp, fun x hx => ?_⟩
  obtain ⟨h, rfl, hh, h1, h2⟩ : ∃ h, x = tup5 h ∧ Szf (n + 2) h ∧ 1 ≤ sum5 h ∧ sum5 h ≤ 4 := by
    simp only [List.mem_cons, List.not_mem_nil, or_false] at hx
    have z1 := fun j => hf.rz (j := j) (u := 1) (by omega) (by decide) (by decide)
    have z2 := fun j i => (z1 j).rz (j := i) (u := 1) (by omega) (by decide) (by decide)
    rcases hx with rfl | rfl | rfl | rfl
    · exact ⟨_, rfl, szf_mono hf (by omega), by omega, by omega⟩
    · exact ⟨_, rfl, szf_mono (z1 r) (by omega), by omega, by omega⟩
    · exact ⟨_, rfl, szf_mono (z1 s) (by omega), by omega, by omega⟩
    · exact ⟨_, rfl, szf_mono (z2 r s) (by omega), by omega, by omega⟩
  clear e1 e2 e3 k12
  conv => whnf
  refine ⟨lsz' (by simp), ?_⟩
  conv => whnf
  refine ⟨d, l, _, rfl, .inl rfl, by decide, by decide, fun x hx => ?_⟩
  obtain ⟨m, rfl, hm⟩ : ∃ m : Nat, x = .int m ∧ m ≤ 4 := by
    simp only [List.mem_cons, List.not_mem_nil, or_false] at hx
    rcases hx with rfl | rfl | rfl | rfl | rfl | rfl
    · exact ⟨0, rfl, by decide⟩
    · exact ⟨1, rfl, by decide⟩
    · exact ⟨2, rfl, by decide⟩
    · exact ⟨4, rfl, by decide⟩
    · exact ⟨1, rfl, by decide⟩
    · exact ⟨3, rfl, by decide⟩
  conv => whnf
  refine ⟨m, rfl, by omega, by omega, ?_⟩
  rw [show ((m : Int)).toNat = m from rfl]
  refine forL_in ?_
  refine forG_rng (S := fun j σ => ∃ h v3, Szf (n + 2 + j) h ∧ (-3 ≤ (j : Int) + sum5 h - 4 ∧ sum5 h ≤ 4 + j) ∧ σ = [.d (dkD d), .d (tl f r s), .d (tup5 h), v3, .no, .no]) 0 m _ ⟨h, _, hh, by omega, rfl⟩ ?_ ?_
  · rintro σ ⟨h, v3, hh, hs, rfl⟩
    have hh : Szf (n + 6) h := szf_mono hh (by omega)
    conv => whnf
    refine ⟨_, _, _, rfl, rfl, by first | decide | omega, by first | decide | omega, fun j j0 j1 => ?_⟩
    conv => whnf
    refine ⟨_, _, _, rfl, rfl, by first | decide | omega, by first | decide | omega, fun t t0 t1 => ?_⟩
    conv => whnf
    refine ⟨by omega, ?_⟩
    conv => whnf
    refine ⟨_, _, _, rfl, rfl, by first | decide | omega, by first | decide | omega, fun i i0 i1 => ?_⟩
    conv => whnf
    refine ⟨_, _, _, rfl, rfl, by first | decide | omega, by first | decide | omega, fun x x0 x1 => ?_⟩
    conv => whnf
    refine ⟨[h 0, h 1, h 2, h 3, h 4], rfl, ?_⟩
    rw [sum_l]
    conv => whnf
    refine ⟨h, i, 1 + x - sum5 h, rfl, i0, by omega, ?_⟩
    conv => whnf
    have es := rz_sum (f := h) (j := i) (u := 1 + x - sum5 h) i0 (by omega)
    have tt := tl_mk (h := rz h i (1 + x - sum5 h)) (j := j) (t := (j + 1 + t) % 5) j0 (by omega) (by omega) (by omega) (by omega) (by omega)
    refine ⟨lsz' (by simp), ?_⟩
    exact q _ ⟨_, _, _, rfl, szf_mono (hh.rz (by omega) (by omega) (by omega)) (by omega), tt⟩
  · rintro k hk σ ⟨h, v3, hh, hs, rfl⟩ E' hrt hnx hct
    conv => whnf
    refine ⟨_, _, _, rfl, rfl, by first | decide | omega, by first | decide | omega, fun i i0 i1 => ?_⟩
    conv => whnf
    refine ⟨_, _, _, rfl, rfl, by first | decide | omega, by first | decide | omega, fun x x0 x1 => ?_⟩
    conv => whnf
    refine ⟨mo2 (by omega) (by omega), ?_⟩
    conv => whnf
    refine ⟨h, i, 1 - 2 * x, rfl, i0, by omega, ?_⟩
    have es := rz_sum (f := h) (j := i) (u := 1 - 2 * x) i0 (by omega)
    exact hnx _ ⟨_, _, hh.rz (by omega) (by omega) (by omega), by omega, rfl⟩
abbrev P6 (x : D) : Prop := Pok 6 260 60000 x
theorem fc {P : D → Prop} {x : D} {xs : List D} (h : P x) (k : ∀ y ∈ xs, P y) : ∀ y ∈ x :: xs, P y := fun y hy => by
  rcases List.mem_cons.mp hy with rfl | hy
  · exact h
  · exact k y hy
theorem fn {P : D → Prop} : ∀ y ∈ ([] : List D), P y := fun _ h => by cases h
theorem pk_t {xs : List D} (h : ∀ x ∈ xs, P6 x) (hl : xs.length ≤ 7) : Pk (.tup xs) := (pok_of h).1.up (Nat.le_refl _) (Nat.le_refl _) (by
  have := Nat.mul_le_mul_left 60002 hl
  omega)
theorem pk_l {xs : List D} (h : ∀ x ∈ xs, P6 x) (hl : xs.length ≤ 7) : Pk (.lst xs) := (pok_of h).2.up (Nat.le_refl _) (Nat.le_refl _) (by
  have := Nat.mul_le_mul_left 60002 hl
  omega)
theorem p6_i {i : Int} (h : Sz 260 i) : P6 (.int i) := (pok_int h).up (by decide) (Nat.le_refl _) (by decide)
abbrev P5' (x : D) : Prop := Pok 5 260 6000 x
theorem p5_i {i : Int} (h : Sz 260 i) : P5' (.int i) := (pok_int h).up (by decide) (Nat.le_refl _) (by decide)
theorem p6_t {xs : List D} (h : ∀ x ∈ xs, P5' x) (hl : xs.length ≤ 7) : P6 (.tup xs) := (pok_of h).1.up (Nat.le_refl _) (Nat.le_refl _) (by
  have := Nat.mul_le_mul_left 6002 hl
  omega)
theorem p6_l {xs : List D} (h : ∀ x ∈ xs, P5' x) (hl : xs.length ≤ 7) : P6 (.lst xs) := (pok_of h).2.up (Nat.le_refl _) (Nat.le_refl _) (by
  have := Nat.mul_le_mul_left 6002 hl
  omega)
theorem p6_f {f : Int → Int} (h : Szf 260 f) : P6 (tup5 f) := p6_t (fc (p5_i (h 0 (by decide) (by decide))) (fc (p5_i (h 1 (by decide) (by decide))) (fc (p5_i (h 2 (by decide) (by decide))) (fc (p5_i (h 3 (by decide) (by decide))) (fc (p5_i (h 4 (by decide) (by decide))) fn))))) (Nat.le_of_ble_eq_true rfl)
theorem len__law_bent_tile : ∀ W ds Q R, sp__law_bent_tile W ds Q R → ds.length = 2 := by
  rintro W ds Q R ⟨d, l, x, rfl, rfl, _⟩
  rfl
theorem law__law_bent_tile : ∀ W ds Q R, sp__law_bent_tile W ds Q R → g__law_bent_tile W R (endsD Q) (startD 7 ds) := by
  rintro W ds Q R ⟨d, l, _, rfl, rfl, ⟨f, r, s, rfl, hf, T⟩, q⟩
  have r0 := T.r0
  have rs := T.rs
  have s4 := T.s4
  have hr : Sz 260 r := (Sz.small (by omega) (by omega)).mono (by decide)
  have hs : Sz 260 s := (Sz.small (by omega) (by omega)).mono (by decide)
  have hf0 := hf
  have hf : Szf 260 f := szf_mono hf (by decide)
  have h0 := p5_i (hf 0 (by decide) (by decide))
  have h1 := p5_i (hf 1 (by decide) (by decide))
  have h2 := p5_i (hf 2 (by decide) (by decide))
  have h3 := p5_i (hf 3 (by decide) (by decide))
  have h4 := p5_i (hf 4 (by decide) (by decide))
  have z0 : P6 (.int 0) := p6_i ((by decide : Sz 1 (0 : Int)).mono (by decide))
  have y0 : P5' (.int 0) := p5_i ((by decide : Sz 1 (0 : Int)).mono (by decide))
  have pf := p6_f hf
  have pr := p6_i hr
  have ps := p6_i hs
  have pb : ∀ b : Bool, P6 (.bl b) := fun b => ⟨rfl, rfl, Nat.le_of_ble_eq_true rfl⟩
  have pn : P6 .non := ⟨rfl, rfl, Nat.le_of_ble_eq_true rfl⟩
  have pc : ∀ {i : Int}, Sz 110 i → P6 (.int i) := fun h => p6_i (h.mono (by decide))
  have ps0 : P6 (.str "0") := ⟨by decide +kernel, rfl, by decide +kernel⟩
  have ps4 : P6 (.str "4") := ⟨by decide +kernel, rfl, by decide +kernel⟩
  have yb : ∀ b : Bool, P5' (.bl b) := fun b => ⟨rfl, rfl, Nat.le_of_ble_eq_true rfl⟩
  have yn : P5' .non := ⟨rfl, rfl, Nat.le_of_ble_eq_true rfl⟩
  have ys0 : P5' (.str "0") := ⟨by decide +kernel, rfl, by decide +kernel⟩
  have yt0 : P5' (.tup [.int 0]) := ⟨rfl, (show sm (2 ^ 260) (.tup [.int 0]) = true by decide +kernel), by decide +kernel⟩
  have yl1 : P5' (.lst [.int 1]) := ⟨rfl, (show sm (2 ^ 260) (.lst [.int 1]) = true by decide +kernel), by decide +kernel⟩
  have p0 : Pok 1 260 4301 (.int (f 0)) := (pok_int (hf 0 (by decide) (by decide))).up (by decide) (Nat.le_refl _) (Nat.le_refl _)
  have p1 : Pok 1 260 4301 (.int (f 1)) := (pok_int (hf 1 (by decide) (by decide))).up (by decide) (Nat.le_refl _) (Nat.le_refl _)
  have p2 : Pok 1 260 4301 (.int (f 2)) := (pok_int (hf 2 (by decide) (by decide))).up (by decide) (Nat.le_refl _) (Nat.le_refl _)
  have p3 : Pok 1 260 4301 (.int (f 3)) := (pok_int (hf 3 (by decide) (by decide))).up (by decide) (Nat.le_refl _) (Nat.le_refl _)
  have p4 : Pok 1 260 4301 (.int (f 4)) := (pok_int (hf 4 (by decide) (by decide))).up (by decide) (Nat.le_refl _) (Nat.le_refl _)
  unfold g__law_bent_tile
  conv => whnf
  refine ⟨_, rfl, rfl, ?_⟩
  conv => whnf
  refine ⟨_, _, _, rfl, rfl, by first | decide | omega, by first | decide | omega, fun a a0 a1 => ?_⟩
  conv => whnf
  refine ⟨_, _, _, rfl, rfl, by first | decide | omega, by first | decide | omega, fun b b0 b1 => ?_⟩
  conv => whnf
  refine ⟨rfl, ?_⟩
  conv => whnf
  by_cases k : a < 2
  · rw [decide_eq_true k]
    conv => whnf
    refine ⟨rfl, rfl, ?_⟩
    by_cases k : a = 0
    · rw [show eqb (.int a) (.int 0) = true from decide_eq_true k]
      ((conv => whnf); repeat decreasing_trivial_pre_omega)
      exact q _ (pk_l (fc pf (fc pr (fc ps fn))) (Nat.le_of_ble_eq_true rfl))
    · rw [show eqb (.int a) (.int 0) = false from decide_eq_false k]
      ((conv => whnf); repeat decreasing_trivial_pre_omega)
      exact q _ (pk_t (fc (p6_l (fc h0 (fc h1 (fc h2 (fc h3 (fc h4 fn))))) (Nat.le_of_ble_eq_true rfl)) (fc pr (fc ps fn))) (Nat.le_of_ble_eq_true rfl))
  rw [decide_eq_false k]
  conv => whnf
  by_cases k : a < 4
  · rw [decide_eq_true k]
    conv => whnf
    refine ⟨rfl, rfl, ?_⟩
    by_cases k : a = 2
    · rw [show eqb (.int a) (.int 2) = true from decide_eq_true k]
      ((conv => whnf); repeat decreasing_trivial_pre_omega)
      exact q _ (pk_t (fc pf (fc ps (fc pr fn))) (Nat.le_of_ble_eq_true rfl))
    · rw [show eqb (.int a) (.int 2) = false from decide_eq_false k]
      ((conv => whnf); repeat decreasing_trivial_pre_omega)
      exact q _ (pk_t (fc pf (fc pr (fc pr fn))) (Nat.le_of_ble_eq_true rfl))
  rw [decide_eq_false k]
  conv => whnf
  by_cases k : a < 6
  · rw [decide_eq_true k]
    conv => whnf
    refine ⟨rfl, rfl, ?_⟩
    by_cases k : a = 4
    · rw [show eqb (.int a) (.int 4) = true from decide_eq_true k]
      ((conv => whnf); repeat decreasing_trivial_pre_omega)
      exact q _ (pk_t (fc pf (fc pr fn)) (Nat.le_of_ble_eq_true rfl))
    · rw [show eqb (.int a) (.int 4) = false from decide_eq_false k]
      ((conv => whnf); repeat decreasing_trivial_pre_omega)
      exact q _ (pk_t (fc pf (fc pr (fc ps (fc z0 fn)))) (Nat.le_of_ble_eq_true rfl))
  rw [decide_eq_false k]
  conv => whnf
  refine ⟨rfl, rfl, ?_⟩
  by_cases k : a = 6
  · rw [show eqb (.int a) (.int 6) = true from decide_eq_true k]
    ((conv => whnf); repeat decreasing_trivial_pre_omega)
    refine ⟨d, l, _, rfl, .inl rfl, (Nat.le_of_ble_eq_true rfl), (Nat.le_of_ble_eq_true rfl), fun x hx => ?_⟩
    obtain ⟨i, rfl, i0, i5⟩ : ∃ i : Int, x = .int i ∧ -5 ≤ i ∧ i ≤ 5 := by
      simp only [List.mem_cons, List.not_mem_nil, or_false] at hx
      rcases hx with rfl | rfl | rfl | rfl | rfl | rfl | rfl <;> exact ⟨_, rfl, by decide, by decide⟩
    conv => whnf
    refine ⟨f, b, i, rfl, b0, by omega, ?_⟩
    ((conv => whnf); repeat decreasing_trivial_pre_omega)
    exact q _ (pk_t (fc (p6_f (szf_mono (hf0.rz (by decide) (by omega) (by omega)) (by decide))) (fc pr (fc ps fn))) (Nat.le_of_ble_eq_true rfl))
  rw [show eqb (.int a) (.int 6) = false from decide_eq_false k]
  conv => whnf
  by_cases k : a < 9
  · rw [decide_eq_true k]
    conv => whnf
    refine ⟨rfl, rfl, ?_⟩
    by_cases k : a = 7
    · rw [show eqb (.int a) (.int 7) = true from decide_eq_true k]
      ((conv => whnf); repeat decreasing_trivial_pre_omega)
      exact q _ (pk_t (fc (p6_t (fc h0 (fc h1 (fc h2 (fc h3 fn)))) (Nat.le_of_ble_eq_true rfl)) (fc pr (fc ps fn))) (Nat.le_of_ble_eq_true rfl))
    · rw [show eqb (.int a) (.int 7) = false from decide_eq_false k]
      ((conv => whnf); repeat decreasing_trivial_pre_omega)
      exact q _ (pk_t (fc (p6_t (fc h0 (fc h1 (fc h2 (fc h3 (fc h4 (fc y0 fn)))))) (Nat.le_of_ble_eq_true rfl)) (fc pr (fc ps fn))) (Nat.le_of_ble_eq_true rfl))
  rw [decide_eq_false k]
  conv => whnf
  refine ⟨rfl, rfl, ?_⟩
  by_cases k : a = 9
  · rw [show eqb (.int a) (.int 9) = true from decide_eq_true k]
    have pv : ∀ x ∈ [D.bl true, .bl false, .non, .str "0", .tup [.int 0], .lst [.int 1]], P5' x := fc (yb _) (fc (yb _) (fc yn (fc ys0 (fc yt0 (fc yl1 fn)))))
    rcases five_of b0 (by omega) with h | h | h | h | h <;> subst h
    · ((conv => whnf); repeat decreasing_trivial_pre_omega)
      refine ⟨d, l, _, rfl, .inl rfl, (Nat.le_of_ble_eq_true rfl), (Nat.le_of_ble_eq_true rfl), fun x hx => ?_⟩
      have px := pv x hx
      ((conv => whnf); repeat decreasing_trivial_pre_omega)
      exact q _ (pk_t (fc (p6_t (fc px (fc h1 (fc h2 (fc h3 (fc h4 fn))))) (Nat.le_of_ble_eq_true rfl)) (fc pr (fc ps fn))) (Nat.le_of_ble_eq_true rfl))
    · ((conv => whnf); repeat decreasing_trivial_pre_omega)
      refine ⟨d, l, _, rfl, .inl rfl, (Nat.le_of_ble_eq_true rfl), (Nat.le_of_ble_eq_true rfl), fun x hx => ?_⟩
      have px := pv x hx
      ((conv => whnf); repeat decreasing_trivial_pre_omega)
      exact q _ (pk_t (fc (p6_t (fc h0 (fc px (fc h2 (fc h3 (fc h4 fn))))) (Nat.le_of_ble_eq_true rfl)) (fc pr (fc ps fn))) (Nat.le_of_ble_eq_true rfl))
    · ((conv => whnf); repeat decreasing_trivial_pre_omega)
      refine ⟨d, l, _, rfl, .inl rfl, (Nat.le_of_ble_eq_true rfl), (Nat.le_of_ble_eq_true rfl), fun x hx => ?_⟩
      have px := pv x hx
      ((conv => whnf); repeat decreasing_trivial_pre_omega)
      exact q _ (pk_t (fc (p6_t (fc h0 (fc h1 (fc px (fc h3 (fc h4 fn))))) (Nat.le_of_ble_eq_true rfl)) (fc pr (fc ps fn))) (Nat.le_of_ble_eq_true rfl))
    · ((conv => whnf); repeat decreasing_trivial_pre_omega)
      refine ⟨d, l, _, rfl, .inl rfl, (Nat.le_of_ble_eq_true rfl), (Nat.le_of_ble_eq_true rfl), fun x hx => ?_⟩
      have px := pv x hx
      ((conv => whnf); repeat decreasing_trivial_pre_omega)
      exact q _ (pk_t (fc (p6_t (fc h0 (fc h1 (fc h2 (fc px (fc h4 fn))))) (Nat.le_of_ble_eq_true rfl)) (fc pr (fc ps fn))) (Nat.le_of_ble_eq_true rfl))
    · ((conv => whnf); repeat decreasing_trivial_pre_omega)
      refine ⟨d, l, _, rfl, .inl rfl, (Nat.le_of_ble_eq_true rfl), (Nat.le_of_ble_eq_true rfl), fun x hx => ?_⟩
      have px := pv x hx
      ((conv => whnf); repeat decreasing_trivial_pre_omega)
      exact q _ (pk_t (fc (p6_t (fc h0 (fc h1 (fc h2 (fc h3 (fc px fn))))) (Nat.le_of_ble_eq_true rfl)) (fc pr (fc ps fn))) (Nat.le_of_ble_eq_true rfl))
  rw [show eqb (.int a) (.int 9) = false from decide_eq_false k]
  conv => whnf
  refine ⟨rfl, rfl, ?_⟩
  by_cases k : a = 10
  · rw [show eqb (.int a) (.int 10) = true from decide_eq_true k]
    have pv : ∀ x ∈ [D.bl true, .bl false, .non, .int (-1), .int 5, .str "0", .tup [.int r]], P6 x := fc (pb _) (fc (pb _) (fc pn (fc (pc (by decide)) (fc (pc (by decide)) (fc ps0 (fc (p6_t (fc (p5_i hr) fn) (Nat.le_of_ble_eq_true rfl)) fn))))))
    ((conv => whnf); repeat decreasing_trivial_pre_omega)
    refine ⟨d, l, _, rfl, .inl rfl, (Nat.le_of_ble_eq_true rfl), (Nat.le_of_ble_eq_true rfl), fun x hx => ?_⟩
    have px := pv x hx
    ((conv => whnf); repeat decreasing_trivial_pre_omega)
    exact q _ (pk_t (fc pf (fc px (fc ps fn))) (Nat.le_of_ble_eq_true rfl))
  rw [show eqb (.int a) (.int 10) = false from decide_eq_false k]
  conv => whnf
  refine ⟨rfl, rfl, ?_⟩
  by_cases k : a = 11
  · rw [show eqb (.int a) (.int 11) = true from decide_eq_true k]
    have pv : ∀ x ∈ [D.bl true, .int 5, .non, .str "4", .int (-1), .lst [.int s], .int (10 ^ 30)], P6 x := fc (pb _) (fc (pc (by decide)) (fc pn (fc ps4 (fc (pc (by decide)) (fc (p6_l (fc (p5_i hs) fn) (Nat.le_of_ble_eq_true rfl)) (fc (pc (by decide)) fn))))))
    ((conv => whnf); repeat decreasing_trivial_pre_omega)
    refine ⟨d, l, _, rfl, .inl rfl, (Nat.le_of_ble_eq_true rfl), (Nat.le_of_ble_eq_true rfl), fun x hx => ?_⟩
    have px := pv x hx
    ((conv => whnf); repeat decreasing_trivial_pre_omega)
    exact q _ (pk_t (fc pf (fc pr (fc px fn))) (Nat.le_of_ble_eq_true rfl))
  rw [show eqb (.int a) (.int 11) = false from decide_eq_false k]
  conv => whnf
  refine ⟨rfl, rfl, ?_⟩
  by_cases k : a = 12
  · rw [show eqb (.int a) (.int 12) = true from decide_eq_true k]
    ((conv => whnf); repeat decreasing_trivial_pre_omega)
    refine q _ ?_
    exact (pok_of (n := 3) (m := 260) (b := 100000) (fc ((pok_of (n := 2) (m := 260) (b := 30000) (fc ((pok_of (n := 1) (m := 260) (b := 4301) (fc p0 (fc p1 (fc p2 (fc p3 (fc p4 fn)))))).1.up (Nat.le_refl _) (Nat.le_refl _) (Nat.le_of_ble_eq_true rfl)) (fc ((pok_int hr).up (by decide) (Nat.le_refl _) (by decide)) (fc ((pok_int hs).up (by decide) (Nat.le_refl _) (by decide)) fn)))).1.up (Nat.le_refl _) (Nat.le_refl _) (Nat.le_of_ble_eq_true rfl)) fn)).1.up (by decide) (Nat.le_refl _) (Nat.le_of_ble_eq_true rfl)
  rw [show eqb (.int a) (.int 12) = false from decide_eq_false k]
  ((conv => whnf); repeat decreasing_trivial_pre_omega)
  exact q
theorem law__law_bad : ∀ W act Q f0, sp__law_bad W act Q → g__law_bad W f0 act (endsD Q) (startD 3 [.opq (.ref f0)]) := by
  rintro W act Q f0 ⟨o, hne, ha, q⟩
  unfold g__law_bad
  conv => whnf
  refine ⟨rfl, ?_⟩
  refine ha _ _ ?_
  cases o with
  | ok d =>
    show _ ∧ _
    refine ⟨lsz' (by simp), ?_⟩
    conv => whnf
    exact q
  | edge x => exact hne.elim
  | tile x =>
    conv => whnf
    refine ⟨true, (show clsM "BadTile" "BadTile" = some true by decide +kernel), ?_⟩
    conv => whnf
    intro a
    conv => whnf
    refine ⟨rfl, (show knownE "BadTile" = true by decide +kernel), x, rfl, ?_⟩
    conv => whnf
    refine ⟨lsz' (by simp), ?_⟩
    conv => whnf
    exact q
theorem rp_allD {n : Nat} {xs : List D} (h : rps n xs = true) : ∀ x ∈ xs, rp n x = true := by
  simpa only [rps_all, List.all_eq_true] using h
theorem ints_of : ∀ xs : List D, (∀ x ∈ xs, isI x = true) → ∃ ns : List Int, xs = ns.map D.int
  | [], _ => ⟨[], rfl⟩
  | x :: xs, h => by
    obtain ⟨ns, e⟩ := ints_of xs fun y hy => h y (List.mem_cons_of_mem _ hy)
    obtain ⟨i, rfl⟩ := isI_n (h x List.mem_cons_self)
    exact ⟨i :: ns, by rw [e]; rfl⟩
theorem len__law_is_tile : ∀ W ds Q R, sp__law_is_tile W ds Q R → ds.length = 1 := by
  rintro W ds Q R ⟨x, rfl, _⟩
  rfl
theorem law__law_is_tile : ∀ W ds Q R, sp__law_is_tile W ds Q R → g__law_is_tile W R (endsD Q) (startD 2 ds) := by
  rintro W ds Q R ⟨x, rfl, h, q⟩
  have one : ∀ {x : D} {Q : D → Prop}, isTile x = false → Q (.bl (isTile x)) → Q (.bl false) := fun e q => e ▸ q
  unfold g__law_is_tile
  conv => whnf
  refine ⟨by decide +kernel, rp_ty h, ?_⟩
  cases x with
  | tup xs =>
    conv => whnf
    refine ⟨rfl, rfl, ?_⟩
    rw [eqb_i]
    by_cases hl : xs.length = 3
    · rw [decide_eq_true (show (xs.length : Int) = 3 by omega)]
      obtain ⟨c, r, s, rfl⟩ := len3 hl
      have hx := rp_allD (show rps 63 [c, r, s] = true from h)
      have hc := hx c (by simp)
      have hr := hx r (by simp)
      have hs := hx s (by simp)
      conv => whnf
      refine ⟨c, rfl, ?_⟩
      conv => whnf
      refine ⟨by decide +kernel, rp_ty hc, ?_⟩
      cases c with
      | tup ys =>
        conv => whnf
        refine ⟨_, rfl, ?_⟩
        conv => whnf
        refine ⟨rfl, rfl, ?_⟩
        rw [eqb_i]
        by_cases h5 : ys.length = 5
        · rw [decide_eq_true (show (ys.length : Int) = 5 by omega)]
          conv => whnf
          refine ⟨_, rfl, ?_⟩
          conv => whnf
          refine ⟨1, rfl, ?_⟩
          conv => whnf
          refine ⟨by show ys.length + 2 ≤ sizeLine; exact lsz' (by omega), ?_⟩
          conv => whnf
          have hy : ∀ y ∈ ys ++ [r, s], rp 63 y = true := fun y hy => by
            rcases List.mem_append.mp hy with hy | hy
            · exact rp_mono _ _ _ (by decide) (rp_allD (show rps 62 ys = true from hc) y hy)
            · simp only [List.mem_cons, List.not_mem_nil, or_false] at hy
              rcases hy with rfl | rfl
              · exact hr
              · exact hs
          refine lc_mf (fun x => !isI x) id (by show 1 < 2; decide) _ [] (fun y hm Qd qd => ?_) (fun y hm _ Qd qd => ?_) (by show 0 + (ys ++ [r, s]).length ≤ sizeLine; rw [List.length_append]; exact lsz' (by simp; omega)) ?_
          · conv => whnf
            refine ⟨y, rfl, tyk_rp (hy y hm), ?_⟩
            cases e : isI y
            · conv => whnf
              rw [e] at qd
              exact qd
            · conv => whnf
              rw [e] at qd
              exact qd
          · exact qd
          rw [List.map_id, List.nil_append]
          rw [show cutG [D.tup ys, r, s] (some 1) none = [r, s] from rfl]
          cases eL : (ys ++ [r, s]).filter fun x => !isI x with
          | nil =>
            have hi : ∀ y ∈ ys ++ [r, s], isI y = true := fun y hm => by
              have := List.filter_eq_nil_iff.mp eL y hm
              simpa using this
            obtain ⟨ns, rfl⟩ := ints_of ys fun y hm => hi y (by simp [hm])
            obtain ⟨i, rfl⟩ := isI_n (hi r (by simp))
            obtain ⟨j, rfl⟩ := isI_n (hi s (by simp))
            rw [List.length_map] at h5
            obtain ⟨a, b, c, d, e, rfl⟩ : ∃ a b c d e, ns = [a, b, c, d, e] := by
              match ns, h5 with
              | [a, b, c, d, e], _ => exact ⟨a, b, c, d, e, rfl⟩
            have et : isTile (.tup [.tup ([a, b, c, d, e].map D.int), .int i, .int j]) = decide (([a, b, c, d, e].sum = 1 ∨ [a, b, c, d, e].sum = 2) ∧ 0 ≤ i ∧ i < j ∧ j < 5) := by
              show (true && (true && (true && _))) = _
              rw [Bool.true_and, Bool.true_and, Bool.true_and]
              rfl
            rw [et] at q
            ((conv => whnf); repeat decreasing_trivial_pre_omega)
            generalize hS : [a, b, c, d, e].sum = S at q
            split
            · rename_i h
              have h : inb (.int S) [.int 1, .int 2] = true := h
              rw [inb2] at h
              have h := of_decide_eq_true h
              ((conv => whnf); repeat decreasing_trivial_pre_omega)
              by_cases g1 : 0 ≤ i
              · rw [decide_eq_true g1]
                ((conv => whnf); repeat decreasing_trivial_pre_omega)
                by_cases g2 : i < j
                · rw [decide_eq_true g2]
                  ((conv => whnf); repeat decreasing_trivial_pre_omega)
                  rw [show decide (j ≤ 4) = decide ((S = 1 ∨ S = 2) ∧ 0 ≤ i ∧ i < j ∧ j < 5) from decide_eq_decide.mpr (by omega)]
                  exact q
                · rw [decide_eq_false g2]
                  rw [decide_eq_false (by omega)] at q
                  ((conv => whnf); repeat decreasing_trivial_pre_omega)
                  exact q
              · rw [decide_eq_false g1]
                rw [decide_eq_false (by omega)] at q
                ((conv => whnf); repeat decreasing_trivial_pre_omega)
                exact q
            · rename_i h
              have h : inb (.int S) [.int 1, .int 2] = false := h
              have e2 := h
              rw [inb2] at h
              have h := of_decide_eq_false h
              rw [decide_eq_false (by omega)] at q
              show Q (.bl (inb (.int S) [.int 1, .int 2]))
              rw [e2]
              exact q
          | cons z zs =>
            ((conv => whnf); repeat decreasing_trivial_pre_omega)
            refine one ?_ q
            have hz : z ∈ (ys ++ [r, s]).filter fun x => !isI x := by rw [eL]; exact List.mem_cons_self
            obtain ⟨m1, m2⟩ := List.mem_filter.mp hz
            have m2 : isI z = false := by simpa using m2
            show (isFive (.tup ys) && (isI r && (isI s && _))) = false
            rcases List.mem_append.mp m1 with m1 | m1
            · have : isFive (.tup ys) = false := by
                show (decide (ys.length = 5) && ys.all isI) = false
                rw [show ys.all isI = false by
                  rw [List.all_eq_false]
                  exact ⟨z, m1, by rw [m2]; decide⟩, Bool.and_false]
              rw [this, Bool.false_and]
            · simp only [List.mem_cons, List.not_mem_nil, or_false] at m1
              rcases m1 with rfl | rfl
              · rw [m2, Bool.false_and, Bool.and_false]
              · rw [m2, Bool.false_and, Bool.and_false, Bool.and_false]
        · rw [decide_eq_false (show ¬ (ys.length : Int) = 5 by omega)]
          conv => whnf
          refine one ?_ q
          simp [isTile, isFive, h5]
      | _ =>
        conv => whnf
        refine one ?_ q
        rfl
    · rw [decide_eq_false (show ¬ (xs.length : Int) = 3 by omega)]
      conv => whnf
      exact one (tile_no hl) q
  | _ =>
    conv => whnf
    exact q
def FrT (n : Nat) (u v w p q d : Int) : Prop := Num n u v w ∧ u * d = p * w ∧ v * d = q * w
theorem frT_red {n : Nat} {p q d : Int} (hp : Sz n p) (hq : Sz n q) (hd : Sz n d) (h : 1 ≤ d) : ∃ x y z, red p q d = tri x y z ∧ FrT n x y z p q d := by
  obtain ⟨x, y, z, e, n, e1, e2⟩ := red_parts hp hq hd h
  exact ⟨x, y, z, e, n, e1, e2⟩
theorem adR {n m : Nat} {u v w u' v' w' p q d p' q' d' : Int} (h : FrT n u v w p q d) (h' : FrT m u' v' w' p' q' d') : ∃ x y z, red (u * w' + u' * w) (v * w' + v' * w) (w * w') = tri x y z ∧ FrT (n + m + 1) x y z (p * d' + p' * d) (q * d' + q' * d) (d * d') := by
  obtain ⟨n1, e1, e2⟩ := h
  obtain ⟨n2, f1, f2⟩ := h'
  obtain ⟨z1, z2, z3, z4⟩ := add_sz n1 n2
  obtain ⟨x, y, z, e, k1, k2, k3⟩ := red_parts z1 z2 z3 z4
  have w1 := n1.2.2.2
  have w2 := n2.2.2.2
  refine ⟨x, y, z, e, k1, ?_, ?_⟩
  · have : (w * w') * (x * (d * d')) = (w * w') * ((p * d' + p' * d) * z) := by
      have : (w * w') * (x * (d * d')) = (x * (w * w')) * (d * d') := by grind
      rw [this, k2]
      have : (u * w' + u' * w) * z * (d * d') = ((u * d) * w' * d' + (u' * d') * w * d) * z := by grind
      rw [this, e1, f1]
      clear this k2 k3 e1 e2 f1 f2
      grind
    exact Int.eq_of_mul_eq_mul_left (by have := Int.mul_pos w1 w2; omega) this
  · have : (w * w') * (y * (d * d')) = (w * w') * ((q * d' + q' * d) * z) := by
      have : (w * w') * (y * (d * d')) = (y * (w * w')) * (d * d') := by grind
      rw [this, k3]
      have : (v * w' + v' * w) * z * (d * d') = ((v * d) * w' * d' + (v' * d') * w * d) * z := by grind
      rw [this, e2, f2]
      clear this k2 k3 e1 e2 f1 f2
      grind
    exact Int.eq_of_mul_eq_mul_left (by have := Int.mul_pos w1 w2; omega) this
theorem frT_neg {n : Nat} {u v w p q d : Int} (h : FrT n u v w p q d) : FrT n (-u) (-v) w (-p) (-q) d :=
  ⟨h.1.neg, by rw [Int.neg_mul, h.2.1, Int.neg_mul], by rw [Int.neg_mul, h.2.2, Int.neg_mul]⟩
theorem tkR {n m : Nat} {u v w u' v' w' p q d p' q' d' : Int} (h : FrT n u v w p q d) (h' : FrT m u' v' w' p' q' d') : ∃ x y z, red (u * w' + -u' * w) (v * w' + -v' * w) (w * w') = tri x y z ∧ FrT (n + m + 1) x y z (p * d' + -p' * d) (q * d' + -q' * d) (d * d') := adR h (frT_neg h')
theorem frT_psg {n : Nat} {u v w p q d : Int} (h : FrT n u v w p q d) (d1 : 1 ≤ d) : psg u v = psg p q := by
  obtain ⟨n1, e1, e2⟩ := h
  have a := psg_scale d1 u v
  have b := psg_scale n1.2.2.2 p q
  rw [← a, ← b, Int.mul_comm d u, Int.mul_comm d v, e1, e2, Int.mul_comm p w, Int.mul_comm q w]
theorem len_minus : ∀ W ds Q R, sp_minus W ds Q R → ds.length = 2 := by
  rintro W ds Q R ⟨n, m, a, b, d, c, e, f, rfl, _⟩
  rfl
theorem law_minus : ∀ W ds Q R, sp_minus W ds Q R → g_minus W R (endsD Q) (startD 2 ds) := by
  rintro W ds Q R ⟨n, m, a, b, d, c, e, f, rfl, hn, hm, hl, hd, hf, q⟩
  unfold g_minus
  conv => whnf
  refine ⟨(by simp), ?_⟩
  conv => whnf
  refine ⟨_, rfl, fun x hx => ?_, ?_⟩
  · simp only [List.mem_cons, List.not_mem_nil, or_false] at hx
    rcases hx with rfl | rfl
    · exact ⟨_, _, _, rfl, hn.2.2.2⟩
    · exact ⟨_, _, _, rfl, hm.2.2.2⟩
  conv => whnf
  exact ⟨n, m, a, b, d, c, e, f, rfl, hn, hm, hl, hd, hf, q⟩
theorem len_sign : ∀ W ds Q R, sp_sign W ds Q R → ds.length = 1 := by
  rintro W ds Q R ⟨a, b, m, rfl, _⟩
  rfl
theorem law_sign : ∀ W ds Q R, sp_sign W ds Q R → g_sign W R (endsD Q) (startD 1 ds) := by
  rintro W ds Q R ⟨a, b, m, rfl, h1, ha, hb, q⟩
  unfold g_sign
  conv => whnf
  refine ⟨(by simp), ?_⟩
  conv => whnf
  refine ⟨_, rfl, fun x hx => ?_, ?_⟩
  · simp only [List.mem_cons, List.not_mem_nil, or_false] at hx
    subst hx
    exact ⟨_, _, _, rfl, h1⟩
  conv => whnf
  exact ⟨a, b, m, rfl, ha, hb, q⟩
/-- the numbers of a point -/
def ptP (h : Int → Int) (i : Int) : D := red (2 * h i - (h ((i - 1) % 5) + h ((i + 1) % 5))) (h ((i - 1) % 5) + h ((i + 1) % 5) - (h ((i - 2) % 5) + h ((i + 2) % 5))) 2
def ptL (h : Int → Int) : Nat → List D
  | 0 => []
  | n + 1 => ptL h n ++ [ptP h n]
theorem len_point_of : ∀ W ds Q R, sp_point_of W ds Q R → ds.length = 1 := by
  rintro W ds Q R ⟨f, rfl, _⟩
  rfl
theorem law_point_of : ∀ W ds Q R, sp_point_of W ds Q R → g_point_of W R (endsD Q) (startD 5 ds) := by
  rintro W ds Q R ⟨f, rfl, hf, q⟩
  have z2 : Sz 2 (2 : Int) := by decide
  have m2 : ∀ i : Int, 0 ≤ i → i ≤ 4 → ND.MulOk 2 (f i) := fun i i0 i4 => z2.ok (hf i i0 i4) (by decide)
  have zd : Sz 8900 (2 : Int) := z2.mono (by decide)
  unfold g_point_of
  conv => whnf
  refine ⟨_, rfl, tyk1_rp (show rp 64 (tup5 f) = true by simp [tup5, rp, rps]), ?_⟩
  conv => whnf
  refine ⟨lsz' (by simp), ?_⟩
  conv => whnf
  refine ⟨5, rfl, by decide, by decide, ?_⟩
  refine forL_in ?_
  refine forG_rng (S := fun j σ => ∃ x y z, σ = [.d (tup5 f), .ol (ptL f j), x, y, z]) 0 5 _ ⟨_, _, _, rfl⟩ ?_ ?_
  · rintro σ ⟨x, y, z, rfl⟩
    conv => whnf
    exact q
  · rintro k hk σ ⟨x, y, z, rfl⟩ E' hrt hnx hct
    rw [show (0 : Int) + (k : Int) = (k : Int) by omega]
    have hl : (ptL f k).length < sizeLine := by
      have : ∀ n, (ptL f n).length = n := fun n => by
        induction n with
        | zero => rfl
        | succ n ih => show (ptL f n ++ [_]).length = _; rw [List.length_append, ih]; rfl
      rw [this]
      exact lsz (by omega)
    have nx := fun x y z => hnx [.d (tup5 f), .ol (ptL f k ++ [ptP f k]), x, y, z] ⟨x, y, z, rfl⟩
    conv => whnf
    refine ⟨by omega, ?_⟩
    conv => whnf
    refine ix_t5 (by omega) (by omega) ?_
    conv => whnf
    refine ⟨by omega, ?_⟩
    conv => whnf
    refine ix_t5 (by omega) (by omega) ?_
    conv => whnf
    refine ⟨by omega, ?_⟩
    conv => whnf
    refine ix_t5 (by omega) (by omega) ?_
    conv => whnf
    refine ⟨by omega, ?_⟩
    conv => whnf
    refine ix_t5 (by omega) (by omega) ?_
    conv => whnf
    refine ⟨_, rfl, ?_⟩
    conv => whnf
    refine ix_t5 (by omega) (by omega) ?_
    conv => whnf
    refine ⟨m2 k (by omega) (by omega), ?_⟩
    conv => whnf
    refine ⟨_, _, 2, rfl, zd, by decide, ?_⟩
    exact ⟨hl, nx _ _ _⟩
abbrev ptT (h : Int → Int) : D := .tup (l5 (ptP h))
theorem pt_ix {h : Int → Int} {k : Int} (k1 : -5 ≤ k) (k4 : k ≤ 4) {Q : D → Prop} (q : Q (ptP h (k % 5))) : ixD (ptT h) (.int k) Q := by
  have e : k = -5 ∨ k = -4 ∨ k = -3 ∨ k = -2 ∨ k = -1 ∨ k = 0 ∨ k = 1 ∨ k = 2 ∨ k = 3 ∨ k = 4 := by omega
  rcases e with h | h | h | h | h | h | h | h | h | h <;> subst h <;> exact ⟨_, rfl, q⟩
theorem ptP_fr {n : Nat} {h : Int → Int} (hh : Szf n h) (hn : 2 ≤ n) (i : Int) (i0 : 0 ≤ i) (i4 : i ≤ 4) : ∃ x y z, ptP h i = tri x y z ∧ FrT (n + 4) x y z (2 * h i - (h ((i - 1) % 5) + h ((i + 1) % 5))) (h ((i - 1) % 5) + h ((i + 1) % 5) - (h ((i - 2) % 5) + h ((i + 2) % 5))) 2 := by
  have z2 : Sz 2 (2 : Int) := by decide
  have a := hh i i0 i4
  have b := (hh ((i - 1) % 5) (by omega) (by omega)).add (hh ((i + 1) % 5) (by omega) (by omega))
  have c := (hh ((i - 2) % 5) (by omega) (by omega)).add (hh ((i + 2) % 5) (by omega) (by omega))
  exact frT_red ((((z2.mul a).mono (by omega : 2 + n ≤ n + 2)).sub (b.mono (by omega : _ ≤ n + 2))).mono (by omega)) ((b.sub c).mono (by omega)) (z2.mono (by omega)) (by decide)
/-- across d, as the law takes it -/
theorem ac_fr {n : Nat} {h : Int → Int} (hh : Szf n h) (hn : 2 ≤ n) {d : Int} {x y z x' y' z' : Int} (k : FrT (n + 4) x y z (2 * h ((d + 1) % 5) - (h (((d + 1) % 5 - 1) % 5) + h (((d + 1) % 5 + 1) % 5))) (h (((d + 1) % 5 - 1) % 5) + h (((d + 1) % 5 + 1) % 5) - (h (((d + 1) % 5 - 2) % 5) + h (((d + 1) % 5 + 2) % 5))) 2) (k' : FrT (n + 4) x' y' z' (2 * h ((d - 1) % 5) - (h (((d - 1) % 5 - 1) % 5) + h (((d - 1) % 5 + 1) % 5))) (h (((d - 1) % 5 - 1) % 5) + h (((d - 1) % 5 + 1) % 5) - (h (((d - 1) % 5 - 2) % 5) + h (((d - 1) % 5 + 2) % 5))) 2) :
    ∃ u v w, red (x * z' + -x' * z) (y * z' + -y' * z) (z * z') = tri u v w ∧ FrT (2 * n + 9) u v w (2 * bsA h d) (2 * bsB h d) 4 := by
  obtain ⟨u, v, w, e, t⟩ := tkR k k'
  refine ⟨u, v, w, e, ?_⟩
  have t2 : FrT (2 * n + 9) u v w _ _ _ := ⟨t.1.up (by omega), t.2⟩
  have e1 : (d + 1) % 5 - 1 = (d + 1) % 5 - 1 := rfl
  rw [show ((d + 1) % 5 - 1) % 5 = d % 5 by omega, show ((d + 1) % 5 + 1) % 5 = (d + 2) % 5 by omega, show ((d + 1) % 5 - 2) % 5 = (d - 1) % 5 by omega, show ((d + 1) % 5 + 2) % 5 = (d - 2) % 5 by omega, show ((d - 1) % 5 - 1) % 5 = (d - 2) % 5 by omega, show ((d - 1) % 5 + 1) % 5 = d % 5 by omega, show ((d - 1) % 5 - 2) % 5 = (d + 2) % 5 by omega, show ((d - 1) % 5 + 2) % 5 = (d + 1) % 5 by omega] at t2
  refine ⟨t2.1, ?_, ?_⟩
  · have := t2.2.1
    rw [show (2 : Int) * 2 = 4 from rfl] at this
    rw [this]
    congr 1
    unfold bsA nrA frA
    omega
  · have := t2.2.2
    rw [show (2 : Int) * 2 = 4 from rfl] at this
    rw [this]
    congr 1
    unfold bsB nrA frA
    omega
def sgn (d : Int) (h k : Int → Int) : Int := psg (bsA h d - bsA k d) (bsB h d - bsB k d)
theorem sg_fr {n : Nat} {h k : Int → Int} {d u v w u' v' w' : Int} (a : FrT n u v w (2 * bsA h d) (2 * bsB h d) 4) (b : FrT n u' v' w' (2 * bsA k d) (2 * bsB k d) 4) : ∃ x y z, red (u * w' + -u' * w) (v * w' + -v' * w) (w * w') = tri x y z ∧ Num (n + n + 1) x y z ∧ psg x y = sgn d h k := by
  obtain ⟨x, y, z, e, t⟩ := tkR a b
  refine ⟨x, y, z, e, t.1, ?_⟩
  rw [frT_psg t (by decide), show 2 * bsA h d * 4 + -(2 * bsA k d) * 4 = 8 * (bsA h d - bsA k d) by omega, show 2 * bsB h d * 4 + -(2 * bsB k d) * 4 = 8 * (bsB h d - bsB k d) by omega, psg_scale (by decide)]
  rfl
def cnN (f : Int → Int) (r s : Int) : List (Int → Int) := [f, rz f r 1, rz f s 1, rz (rz f r 1) s 1]
theorem cn_bs (f : Int → Int) (r s d : Int) : (cnN f r s).map (fun h => (bsA h d, bsB h d)) = corL f r s d := by
  show [(bsA f d, bsB f d), (bsA (rz f r 1) d, bsB (rz f r 1) d), (bsA (rz f s 1) d, bsB (rz f s 1) d), (bsA (rz (rz f r 1) s 1) d, bsB (rz (rz f r 1) s 1) d)] = _
  rw [(bs_rz f d r).1, (bs_rz f d r).2, (bs_rz f d s).1, (bs_rz f d s).2, (bs_rz (rz f r 1) d s).1, (bs_rz (rz f r 1) d s).2, (bs_rz f d r).1, (bs_rz f d r).2]
  rfl
/-- the signs of all pairs, and what they say -/
def ends (f : Int → Int) (r s : Int) (g : Int → Int) (r' s' d : Int) : List Int := (cnN f r s).flatMap fun h => (cnN g r' s').map (sgn d h)
theorem ends_pt {f g : Int → Int} {r s r' s' d : Int} (hd : d ∈ dirs5) (hr : r ∈ dirs5) (hs : s ∈ dirs5) (hr' : r' ∈ dirs5) (hs' : s' ∈ dirs5) :
    ((∀ y ∈ ends f r s g r' s' d, 0 ≤ y) ↔ 0 ≤ psg (-frA (awF f r s g r' s') d - wA d r s r' s') (-nrA (awF f r s g r' s') d - wB d r s r' s')) ∧ ((∀ y ∈ ends f r s g r' s' d, y ≤ 0) ↔ 0 ≤ psg (frA (awF f r s g r' s') d - wA d r s r' s') (nrA (awF f r s g r' s') d - wB d r s r' s')) := by
  obtain ⟨a1, a2, a3, a4⟩ := cor_ext (f := f) hd hr hs
  obtain ⟨b1, b2, b3, b4⟩ := cor_ext (f := g) hd hr' hs'
  obtain ⟨p1, p2⟩ := pt_one (f := f) (g := g) hd hr hs hr' hs'
  have mem : ∀ x ∈ corL f r s d, ∀ y ∈ corL g r' s' d, psg (x.1 - y.1) (x.2 - y.2) ∈ ends f r s g r' s' d := fun x hx y hy => by
    rw [← cn_bs] at hx hy
    obtain ⟨h, hh, rfl⟩ := List.mem_map.mp hx
    obtain ⟨k, hk, rfl⟩ := List.mem_map.mp hy
    exact List.mem_flatMap.mpr ⟨h, hh, List.mem_map.mpr ⟨k, hk, rfl⟩⟩
  have all : ∀ z ∈ ends f r s g r' s' d, ∃ x ∈ corL f r s d, ∃ y ∈ corL g r' s' d, z = psg (x.1 - y.1) (x.2 - y.2) := fun z hz => by
    obtain ⟨h, hh, hz⟩ := List.mem_flatMap.mp hz
    obtain ⟨k, hk, rfl⟩ := List.mem_map.mp hz
    exact ⟨(bsA h d, bsB h d), by rw [← cn_bs]; exact List.mem_map.mpr ⟨h, hh, rfl⟩, (bsA k d, bsB k d), by rw [← cn_bs]; exact List.mem_map.mpr ⟨k, hk, rfl⟩, rfl⟩
  have flip : ∀ a b c e : Int, psg (a - b) (c - e) = -psg (b - a) (e - c) := fun a b c e => by rw [← psg_neg, show -(b - a) = a - b by omega, show -(e - c) = c - e by omega]
  constructor
  · constructor
    · intro h
      have := h _ (mem _ a2 _ b1)
      rw [flip] at this
      omega
    · intro h z hz
      obtain ⟨x, hx, y, hy, rfl⟩ := all z hz
      have m := nn_of (show 0 ≤ psg ((gmn f r s d).1 - (gmx g r' s' d).1) ((gmn f r s d).2 - (gmx g r' s' d).2) by rw [flip]; omega)
      have u := nn_of (show 0 ≤ psg (x.1 - (gmn f r s d).1) (x.2 - (gmn f r s d).2) by rw [flip]; have := a4 x hx; omega)
      have v := nn_of (b3 y hy)
      have := of_nn ((u.add m).add v)
      rw [show x.1 - (gmn f r s d).1 + ((gmn f r s d).1 - (gmx g r' s' d).1) + ((gmx g r' s' d).1 - y.1) = x.1 - y.1 by omega, show x.2 - (gmn f r s d).2 + ((gmn f r s d).2 - (gmx g r' s' d).2) + ((gmx g r' s' d).2 - y.2) = x.2 - y.2 by omega] at this
      exact this
  · constructor
    · intro h
      have := h _ (mem _ a1 _ b2)
      omega
    · intro h z hz
      obtain ⟨x, hx, y, hy, rfl⟩ := all z hz
      have m := nn_of (show 0 ≤ psg ((gmn g r' s' d).1 - (gmx f r s d).1) ((gmn g r' s' d).2 - (gmx f r s d).2) by rw [flip]; omega)
      have u := nn_of (show 0 ≤ psg (y.1 - (gmn g r' s' d).1) (y.2 - (gmn g r' s' d).2) by rw [flip]; have := b4 y hy; omega)
      have v := nn_of (a3 x hx)
      have := of_nn ((u.add m).add v)
      rw [show y.1 - (gmn g r' s' d).1 + ((gmn g r' s' d).1 - (gmx f r s d).1) + ((gmx f r s d).1 - x.1) = y.1 - x.1 by omega, show y.2 - (gmn g r' s' d).2 + ((gmn g r' s' d).2 - (gmx f r s d).2) + ((gmx f r s d).2 - x.2) = y.2 - x.2 by omega] at this
      rw [flip]
      omega
theorem len__law_is_parted : ∀ W ds Q R, sp__law_is_parted W ds Q R → ds.length = 2 := by
  rintro W ds Q R ⟨f, r, s, g, r', s', rfl, _⟩
  rfl
def ptR (f : Int → Int) (r s : Int) (g : Int → Int) (r' s' : Int) (n : Nat) : Option D := if ptD f r s g r' s' (drN r s r' s' n) = true then some (.bl true) else none
theorem law__law_is_parted : ∀ W ds Q R, sp__law_is_parted W ds Q R → g__law_is_parted W R (endsD Q) (startD 9 ds) := by
  rintro W ds Q R ⟨f, r, s, g, r', s', rfl, T, T', hf, hg, q⟩
  have zN : ∀ {f : Int → Int} {r s : Int}, Szf 300 f → ∀ h ∈ cnN f r s, Szf 310 h := fun {f r s} hf h hh => by
    have z1 := fun j => hf.rz (j := j) (u := 1) (by decide) (by decide) (by decide)
    have z2 := fun j i => (z1 j).rz (j := i) (u := 1) (by decide) (by decide) (by decide)
    unfold cnN at hh
    simp only [List.mem_cons, List.not_mem_nil, or_false] at hh
    rcases hh with rfl | rfl | rfl | rfl
    · exact szf_mono hf (by decide)
    · exact szf_mono (z1 _) (by decide)
    · exact szf_mono (z1 _) (by decide)
    · exact szf_mono (z2 _ _) (by decide)
  have zf := zN (r := r) (s := s) hf
  have zg := zN (r := r') (s := s') hg
  have z3 : ∀ {h : Int → Int}, Szf 310 h → Szf 1000 h := fun h => szf_mono h (by decide)
  unfold g__law_is_parted
  refine seq_mid (P := fun σ => σ = [.d (tl f r s), .d (tl g r' s'), .d (.lst ((cnN f r s).map ptT)), .no, .no, .no, .no, .no, .no]) ?rest1 ?head1
  case head1 =>
    rintro E0 ert nx0
    conv => whnf
    refine ⟨f, r, s, rfl, T, ?_⟩
    conv => whnf
    refine ⟨f, rfl, z3 (zf _ (by simp [cnN])), ?_⟩
    conv => whnf
    refine ⟨lsz (by simp), ?_⟩
    conv => whnf
    refine ⟨rz f r 1, rfl, z3 (zf _ (by simp [cnN])), ?_⟩
    conv => whnf
    refine ⟨lsz (by simp), ?_⟩
    conv => whnf
    refine ⟨rz f s 1, rfl, z3 (zf _ (by simp [cnN])), ?_⟩
    conv => whnf
    refine ⟨lsz (by simp), ?_⟩
    conv => whnf
    refine ⟨rz (rz f r 1) s 1, rfl, z3 (zf _ (by simp [cnN])), ?_⟩
    conv => whnf
    refine ⟨lsz (by simp), ?_⟩
    conv => whnf
    exact nx0 _ rfl
  rintro σ rfl
  refine seq_mid (P := fun σ => σ = [.d (tl f r s), .d (tl g r' s'), .d (.lst ((cnN f r s).map ptT)), .d (.lst ((cnN g r' s').map ptT)), .no, .no, .no, .no, .no]) ?rest2 ?head2
  case head2 =>
    rintro E0 ert nx0
    conv => whnf
    refine ⟨g, r', s', rfl, T', ?_⟩
    conv => whnf
    refine ⟨g, rfl, z3 (zg _ (by simp [cnN])), ?_⟩
    conv => whnf
    refine ⟨lsz (by simp), ?_⟩
    conv => whnf
    refine ⟨rz g r' 1, rfl, z3 (zg _ (by simp [cnN])), ?_⟩
    conv => whnf
    refine ⟨lsz (by simp), ?_⟩
    conv => whnf
    refine ⟨rz g s' 1, rfl, z3 (zg _ (by simp [cnN])), ?_⟩
    conv => whnf
    refine ⟨lsz (by simp), ?_⟩
    conv => whnf
    refine ⟨rz (rz g r' 1) s' 1, rfl, z3 (zg _ (by simp [cnN])), ?_⟩
    conv => whnf
    refine ⟨lsz (by simp), ?_⟩
    conv => whnf
    exact nx0 _ rfl
  rintro σ rfl
  refine seq_mid (P := fun σ => ovl f r s g r' s' = true ∧ True) ?rest4 ?head4
  case rest4 =>
    rintro σ ⟨h, _⟩
    rw [h] at q
    ((conv => whnf); repeat decreasing_trivial_pre_omega)
    exact q
  case head4 =>
    rintro E0 ert nx0
    have ert : E0.rt = Q := ert
    conv => whnf
    refine ⟨1, rfl, ?_⟩
    conv => whnf
    refine ⟨1, rfl, ?_⟩
    conv => whnf
    refine ⟨(show 4 ≤ sizeLine by decide), ?_⟩
    conv => whnf
    refine forL_in ?_
    refine forG_find (fun n : Nat => .int (drN r s r' s' n)) (ptR f r s g r' s') (fun σ => ∃ x y a b c, σ = [.d (tl f r s), .d (tl g r' s'), .d (.lst ((cnN f r s).map ptT)), .d (.lst ((cnN g r' s').map ptT)), x, y, a, b, c]) four _ ⟨_, _, _, _, _, rfl⟩ (fun v ev => ?_) (fun ev => ?_) ?_
    · obtain ⟨n, hn, e1⟩ := List.exists_of_findSome?_eq_some ev
      unfold ptR at e1
      split at e1
      · rename_i k
        cases e1
        rw [ert]
        have : ovl f r s g r' s' = false := by
          unfold ovl
          rcases four_or hn with rfl | rfl | rfl | rfl <;> (simp only [drN] at k; rw [k]; simp)
        rw [this] at q
        exact q
      · cases e1
    · rintro σ _
      refine nx0 σ ⟨?_, trivial⟩
      have k : ∀ n ∈ four, ptD f r s g r' s' (drN r s r' s' n) = false := fun n hn => by
        have h1 := List.findSome?_eq_none_iff.mp ev n hn
        unfold ptR at h1
        split at h1
        · cases h1
        · rename_i k
          simpa using k
      have k0 := k 0 (by simp)
      have k1 := k 1 (by simp)
      have k2 := k 2 (by simp)
      have k3 := k 3 (by simp)
      simp only [drN] at k0 k1 k2 k3
      unfold ovl
      rw [k0, k1, k2, k3]
      rfl
    · rintro n hn σ ⟨x, y, a, b, c, rfl⟩ E' hrt hv hnx hct
      obtain ⟨d0, d4⟩ := dr_rng T T' n
      obtain ⟨n1, n2⟩ := ends_pt (f := f) (g := g) (dir_of d0 d4) (dir_of T.r0 (by have := T.rs; have := T.s4; omega)) (dir_of (by have := T.rs; have := T.r0; omega) T.s4) (dir_of T'.r0 (by have := T'.rs; have := T'.s4; omega)) (dir_of (by have := T'.rs; have := T'.r0; omega) T'.s4)
      unfold ptR ptD at hv hnx
      generalize drN r s r' s' n = d at *
      conv => whnf
      refine ⟨lsz' (by simp), ?_⟩
      dsimp only
      refine seq_mid (P := fun σ => ∃ c e v, σ = [.d (tl f r s), .d (tl g r' s'), .d (.lst ((cnN f r s).map ptT)), .d (.lst ((cnN g r' s').map ptT)), .d (.int d), .ol ((ends f r s g r' s' d).map D.int), c, e, v]) ?_ ?_
      rotate_left
      · rintro E1 ert1 nx1
        conv => whnf
        refine forL_in ?_
        refine forG_inv (fun ds σ => ∃ (K C : List (Int → Int)) (c e v : SV), cnN f r s = C ++ K ∧ ds = K.map ptT ∧ σ = [.d (tl f r s), .d (tl g r' s'), .d (.lst ((cnN f r s).map ptT)), .d (.lst ((cnN g r' s').map ptT)), .d (.int d), .ol ((C.flatMap fun h => (cnN g r' s').map (sgn d h)).map D.int), c, e, v]) ?_ ?_ _ _ ⟨cnN f r s, [], _, _, _, rfl, rfl, rfl⟩
        · rintro σ ⟨K, C, c, e, v, eC, eK, rfl⟩
          have e0 := List.map_eq_nil_iff.mp eK.symm
          subst e0
          rw [List.append_nil] at eC
          refine nx1 _ ⟨c, e, v, ?_⟩
          unfold ends
          rw [← eC]
        · rintro z zs σ ⟨K, C, c, e, v, eC, eK, rfl⟩ E2 hrt2 hbk2 hnx2 hct2
          obtain ⟨h, K', rfl⟩ : ∃ h K', K = h :: K' := by
            cases K with
            | nil => cases eK
            | cons h K' => exact ⟨h, K', rfl⟩
          obtain ⟨rfl, rfl⟩ := List.cons.inj eK
          have hh : h ∈ cnN f r s := by rw [eC]; simp
          have zh := zf h hh
          have lC : C.length ≤ 3 := by
            have := congrArg List.length eC
            rw [List.length_append, List.length_cons] at this
            have e4 : (cnN f r s).length = 4 := rfl
            omega
          have lB : ∀ C : List (Int → Int), (C.flatMap fun h => (cnN g r' s').map (sgn d h)).length = 4 * C.length := fun C => by
            induction C with
            | nil => rfl
            | cons x C ih => rw [List.flatMap_cons, List.length_append, ih, List.length_map, List.length_cons]; show 4 + _ = _; omega
          conv => whnf
          refine forL_in ?_
          refine forG_inv (fun ds σ => ∃ (L D : List (Int → Int)) (e v : SV), cnN g r' s' = D ++ L ∧ ds = L.map ptT ∧ σ = [.d (tl f r s), .d (tl g r' s'), .d (.lst ((cnN f r s).map ptT)), .d (.lst ((cnN g r' s').map ptT)), .d (.int d), .ol ((C.flatMap (fun h => (cnN g r' s').map (sgn d h)) ++ D.map (sgn d h)).map ND.D.int), .d (ptT h), e, v]) ?_ ?_ _ _ ⟨cnN g r' s', [], _, _, rfl, rfl, by rw [List.map_nil, List.append_nil]; rfl⟩
          · rintro σ ⟨L, D, e, v, eD, eL, rfl⟩
            have e0 := List.map_eq_nil_iff.mp eL.symm
            subst e0
            rw [List.append_nil] at eD
            refine hnx2 _ ⟨K', C ++ [h], .d (ptT h), e, v, by rw [eC]; simp, rfl, ?_⟩
            rw [List.flatMap_append, List.flatMap_singleton, eD]
          · rintro z zs σ ⟨L, D, e, v, eD, eL, rfl⟩ E3 hrt3 hbk3 hnx3 hct3
            obtain ⟨k, L', rfl⟩ : ∃ k L', L = k :: L' := by
              cases L with
              | nil => cases eL
              | cons k L' => exact ⟨k, L', rfl⟩
            obtain ⟨rfl, rfl⟩ := List.cons.inj eL
            have zk := zg k (by rw [eD]; simp)
            have lD : D.length ≤ 3 := by
              have := congrArg List.length eD
              rw [List.length_append, List.length_cons] at this
              have e4 : (cnN g r' s').length = 4 := rfl
              omega
            have nx3 := fun i (hi : i = sgn d h k) e v => hnx3 [.d (tl f r s), .d (tl g r' s'), .d (.lst ((cnN f r s).map ptT)), .d (.lst ((cnN g r' s').map ptT)), .d (.int d), .ol ((C.flatMap (fun h => (cnN g r' s').map (sgn d h)) ++ D.map (sgn d h)).map ND.D.int ++ [.int i]), .d (ptT h), e, v] ⟨L', D ++ [k], e, v, by rw [eD]; simp, rfl, by rw [hi, List.map_append, List.map_append, List.map_append, List.map_append, List.append_assoc]; rfl⟩
            have hl : ((C.flatMap (fun h => (cnN g r' s').map (sgn d h)) ++ D.map (sgn d h)).map ND.D.int).length < sizeLine := by
              rw [List.length_map, List.length_append, lB, List.length_map]
              exact lsz (by omega)
            obtain ⟨x1, y1, z1, q1, f1⟩ := ptP_fr zh (by decide) ((d + 1) % 5) (by omega) (by omega)
            obtain ⟨x2, y2, z2, q2, f2⟩ := ptP_fr zh (by decide) ((d - 1) % 5) (by omega) (by omega)
            obtain ⟨x3, y3, z3', q3, f3⟩ := ptP_fr zk (by decide) ((d + 1) % 5) (by omega) (by omega)
            obtain ⟨x4, y4, z4, q4, f4⟩ := ptP_fr zk (by decide) ((d - 1) % 5) (by omega) (by omega)
            obtain ⟨u1, v1, w1, g1, t1⟩ := ac_fr zh (by decide) f1 f2
            obtain ⟨u2, v2, w2, g2, t2⟩ := ac_fr zk (by decide) f3 f4
            obtain ⟨x5, y5, z5, g5, m5, s5⟩ := sg_fr t1 t2
            have em : ∀ m : Int, (d - 4) % 5 = (d + 1) % 5 := fun _ => by omega
            have nm : ∀ {m : Nat} {u v w : Int}, Num m u v w → m ≤ 2000 → Num 2000 u v w ∧ Sz 4400 w := fun h l => ⟨h.up l, h.2.2.1.mono (by omega)⟩
            conv => whnf
            refine ⟨_, rfl, ?_⟩
            conv => whnf
            refine pt_ix (h := h) (k := d - 4) (by omega) (by omega) ?_
            rw [em 0, q1]
            conv => whnf
            refine pt_ix (h := h) (k := d - 1) (by omega) (by omega) ?_
            rw [q2]
            conv => whnf
            refine ⟨_, _, x1, y1, z1, x2, y2, z2, rfl, (nm f1.1 (by decide)).1, (nm f2.1 (by decide)).1, by decide, (nm f1.1 (by decide)).2, (nm f2.1 (by decide)).2, ?_⟩
            rw [g1]
            conv => whnf
            refine pt_ix (h := k) (k := d - 4) (by omega) (by omega) ?_
            rw [em 0, q3]
            conv => whnf
            refine pt_ix (h := k) (k := d - 1) (by omega) (by omega) ?_
            rw [q4]
            conv => whnf
            refine ⟨_, _, x3, y3, z3', x4, y4, z4, rfl, (nm f3.1 (by decide)).1, (nm f4.1 (by decide)).1, by decide, (nm f3.1 (by decide)).2, (nm f4.1 (by decide)).2, ?_⟩
            rw [g2]
            conv => whnf
            refine ⟨_, _, u1, v1, w1, u2, v2, w2, rfl, (nm t1.1 (by decide)).1, (nm t2.1 (by decide)).1, by decide, (nm t1.1 (by decide)).2, (nm t2.1 (by decide)).2, ?_⟩
            rw [g5]
            conv => whnf
            refine ⟨x5, y5, z5, rfl, m5.2.2.2, m5.1.mono (by decide), m5.2.1.mono (by decide), ?_⟩
            exact ⟨hl, nx3 _ s5 _ _⟩
      rintro σ ⟨c, e, v, rfl⟩
      have io : ∀ L : List Int, intsOf (L.map ND.D.int) = some L := fun L => by
        induction L with
        | nil => rfl
        | cons x L ih => simp [intsOf, ih]
      have l0 : 0 < (ends f r s g r' s' d).length := by
        show 0 < ([_, _, _, _] ++ _ : List Int).length
        simp
      conv => whnf
      refine ⟨_, io _, l0, fun m hm1 hm2 => ?_⟩
      conv => whnf
      by_cases c1 : 0 ≤ m
      · have all : ∀ y ∈ ends f r s g r' s' d, 0 ≤ y := fun y hy => Int.le_trans c1 (hm2 y hy)
        rw [show decide (m ≥ 0) = true from decide_eq_true c1]
        rw [decide_eq_true (n1.mp all), Bool.or_true] at hv
        ((conv => whnf); repeat decreasing_trivial_pre_omega)
        exact (congrFun hrt _).mpr (hv _ rfl)
      · rw [show decide (m ≥ 0) = false from decide_eq_false c1]
        rw [decide_eq_false fun z => c1 (n1.mpr z m hm1), Bool.or_false] at hv hnx
        conv => whnf
        refine ⟨_, io _, l0, fun m hm1 hm2 => ?_⟩
        conv => whnf
        by_cases c2 : m ≤ 0
        · have all : ∀ y ∈ ends f r s g r' s' d, y ≤ 0 := fun y hy => Int.le_trans (hm2 y hy) c2
          rw [decide_eq_true c2]
          rw [decide_eq_true (n2.mp all)] at hv
          ((conv => whnf); repeat decreasing_trivial_pre_omega)
          exact (congrFun hrt _).mpr (hv _ rfl)
        · rw [decide_eq_false c2]
          rw [decide_eq_false fun z => c2 (n2.mpr z m hm1)] at hnx
          ((conv => whnf); repeat decreasing_trivial_pre_omega)
          exact hnx rfl _ ⟨_, _, _, _, _, rfl⟩
theorem ptD_sym (f : Int → Int) (r s : Int) (g : Int → Int) (r' s' d : Int) : ptD g r' s' f r s d = ptD f r s g r' s' d := by
  have a := aw_nr f r s g r' s' d
  have b := aw_nr g r' s' f r s d
  have e1 : nrA (awF g r' s' f r s) d = -nrA (awF f r s g r' s') d := by rw [a.1, b.1]; omega
  have e2 : frA (awF g r' s' f r s) d = -frA (awF f r s g r' s') d := by rw [a.2, b.2]; omega
  have e3 : wA d r' s' r s = wA d r s r' s' := by unfold wA; omega
  have e4 : wB d r' s' r s = wB d r s r' s' := by unfold wB; omega
  unfold ptD
  rw [e1, e2, e3, e4, Int.neg_neg, Int.neg_neg, Bool.or_comm]
theorem ovl_sym (f : Int → Int) (r s : Int) (g : Int → Int) (r' s' : Int) : ovl g r' s' f r s = ovl f r s g r' s' := by
  unfold ovl
  rw [ptD_sym f r s g r' s' r', ptD_sym f r s g r' s' s', ptD_sym f r s g r' s' r, ptD_sym f r s g r' s' s]
  cases ptD f r s g r' s' r <;> cases ptD f r s g r' s' s <;> cases ptD f r s g r' s' r' <;> cases ptD f r s g r' s' s' <;> rfl
theorem same_sym (f : Int → Int) (r s : Int) (g : Int → Int) (r' s' : Int) (n m : Nat) : same g r' s' f r s m n = same f r s g r' s' n m := by
  unfold same
  have e1 : sm5 (ef g r' s' m) (ef f r s n) = sm5 (ef f r s n) (ef g r' s' m) := by
    rw [Bool.eq_iff_iff, sm5_iff, sm5_iff]
    exact eq_comm
  rw [e1, show decide (ej r' s' m = ej r s n) = decide (ej r s n = ej r' s' m) from decide_eq_decide.mpr eq_comm]
theorem meet_sym (f : Int → Int) (r s : Int) (g : Int → Int) (r' s' : Int) (n m : Nat) : meet g r' s' f r s m n = meet f r s g r' s' n m := by
  unfold meet
  rw [same_sym f r s g r' s' n m, show decide (mkS (sum5 g) r' s' m = mkS (sum5 f) r s n) = decide (mkS (sum5 f) r s n = mkS (sum5 g) r' s' m) from decide_eq_decide.mpr eq_comm, show (lleft r' s' m != lleft r s n) = (lleft r s n != lleft r' s' m) by cases lleft r' s' m <;> cases lleft r s n <;> rfl]
theorem fit_iff {f : Int → Int} {r s : Int} {g : Int → Int} {r' s' : Int} : fit f r s g r' s' = true ↔ ∃ n ∈ four, ∃ m ∈ four, meet f r s g r' s' n m = true := by
  unfold fit
  rw [List.any_eq_true]
  constructor
  · rintro ⟨n, hn, h⟩
    obtain ⟨m, hm, h⟩ := List.any_eq_true.mp h
    exact ⟨n, hn, m, hm, h⟩
  · rintro ⟨n, hn, m, hm, h⟩
    exact ⟨n, hn, List.any_eq_true.mpr ⟨m, hm, h⟩⟩
theorem fit_sym (f : Int → Int) (r s : Int) (g : Int → Int) (r' s' : Int) : fit g r' s' f r s = fit f r s g r' s' := by
  rw [Bool.eq_iff_iff, fit_iff, fit_iff]
  constructor
  · rintro ⟨n, hn, m, hm, h⟩
    exact ⟨m, hm, n, hn, by rw [← meet_sym]; exact h⟩
  · rintro ⟨n, hn, m, hm, h⟩
    exact ⟨m, hm, n, hn, by rw [meet_sym]; exact h⟩
/-- what an edge's foot has more than the tile's -/
def sh (r s : Int) : Nat → Int → Int
  | 0 => fun _ => 0
  | 1 => fun _ => 0
  | 2 => fun i => if i = s then 1 else 0
  | _ => fun i => if i = r then 1 else 0
theorem ef_sh (f : Int → Int) (r s : Int) {n : Nat} (hn : n ∈ four) (i : Int) : ef f r s n i = f i + sh r s n i := by
  rcases four_or hn with rfl | rfl | rfl | rfl
  · show f i = f i + 0; omega
  · show f i = f i + 0; omega
  · rfl
  · rfl
theorem same_sh {f : Int → Int} {r s : Int} {g : Int → Int} {r' s' : Int} {n m : Nat} (hn : n ∈ four) (hm : m ∈ four) (h : same f r s g r' s' n m = true) : (∀ i, 0 ≤ i → i ≤ 4 → g i - f i = sh r s n i - sh r' s' m i) ∧ ej r s n = ej r' s' m := by
  unfold same at h
  rw [Bool.and_eq_true, decide_eq_true_eq] at h
  refine ⟨fun i i0 i4 => ?_, h.2⟩
  have e := h.1
  unfold sm5 at e
  have e := of_decide_eq_true e
  have k : ef f r s n i = ef g r' s' m i := by
    rcases five_of i0 i4 with h | h | h | h | h <;> subst h
    · exact e.1
    · exact e.2.1
    · exact e.2.2.1
    · exact e.2.2.2.1
    · exact e.2.2.2.2
  rw [ef_sh f r s hn, ef_sh g r' s' hm] at k
  omega
theorem no_both : ∀ r ∈ dirs5, ∀ s ∈ dirs5, r < s → ∀ r' ∈ dirs5, ∀ s' ∈ dirs5, r' < s' → ∀ n ∈ four, ∀ m ∈ four, ej r s n = ej r' s' m → lleft r s n ≠ lleft r' s' m → ovl z0 r s (fun i => sh r s n i - sh r' s' m i) r' s' = false := by decide +kernel
theorem one_edge : ∀ r ∈ dirs5, ∀ s ∈ dirs5, r < s → ∀ r' ∈ dirs5, ∀ s' ∈ dirs5, r' < s' → ∀ n ∈ four, ∀ m ∈ four, ej r s n = ej r' s' m → ∀ n' ∈ four, ∀ m' ∈ four, ej r s n' = ej r' s' m' → (∀ i ∈ dirs5, sh r s n i - sh r' s' m i = sh r s n' i - sh r' s' m' i) → (n = n' ∧ m = m') ∨ lleft r s n = lleft r' s' m := by decide +kernel
theorem tl_dirs {f : Int → Int} {r s : Int} (T : TileD (tl f r s) f r s) : r ∈ dirs5 ∧ s ∈ dirs5 ∧ r < s := by
  have r0 := T.r0
  have rs := T.rs
  have s4 := T.s4
  exact ⟨dir_of r0 (by omega), dir_of (by omega) s4, rs⟩
theorem meet_parts {f : Int → Int} {r s : Int} {g : Int → Int} {r' s' : Int} {n m : Nat} (h : meet f r s g r' s' n m = true) : same f r s g r' s' n m = true ∧ lleft r s n ≠ lleft r' s' m := by
  unfold meet at h
  rw [Bool.and_eq_true, Bool.and_eq_true] at h
  exact ⟨h.1.1, by simpa using h.1.2⟩
theorem dirs_in {i : Int} (h : i ∈ dirs5) : 0 ≤ i ∧ i ≤ 4 := by
  have : ∀ i ∈ dirs5, 0 ≤ i ∧ i ≤ 4 := by decide
  exact this i h
theorem fit_ovl {f : Int → Int} {r s : Int} {g : Int → Int} {r' s' : Int} (T : TileD (tl f r s) f r s) (T' : TileD (tl g r' s') g r' s') (h : fit f r s g r' s' = true) : ovl f r s g r' s' = false := by
  obtain ⟨n, hn, m, hm, h⟩ := fit_iff.mp h
  obtain ⟨h1, h2⟩ := meet_parts h
  obtain ⟨e1, e2⟩ := same_sh hn hm h1
  obtain ⟨a1, a2, a3⟩ := tl_dirs T
  obtain ⟨b1, b2, b3⟩ := tl_dirs T'
  rw [ovl_cong (f2 := z0) (g2 := fun i => sh r s n i - sh r' s' m i) fun i i0 i4 => by rw [e1 i i0 i4]; show _ = _ - (0 : Int); omega]
  exact no_both r a1 s a2 a3 r' b1 s' b2 b3 n hn m hm e2 h2
theorem sm5_refl (f : Int → Int) : sm5 f f = true := by simp [sm5]
theorem fit_self {f : Int → Int} {r s : Int} (T : TileD (tl f r s) f r s) : fit f r s f r s = false := by
  cases h : fit f r s f r s
  · rfl
  · have a := fit_ovl T T h
    rw [ovl_self (sm5_refl f) T] at a
    cases a
theorem mt_fit {f : Int → Int} {r s : Int} {g : Int → Int} {r' s' : Int} (T : TileD (tl f r s) f r s) (T' : TileD (tl g r' s') g r' s') : decide (mtI f r s g r' s' = 1) = fit f r s g r' s' := by
  have mc : ∀ n m v, mtC f r s g r' s' n m = some v → same f r s g r' s' n m = true ∧ v = if meet f r s g r' s' n m = true then 1 else -1 := fun n m v h => by
    unfold mtC at h
    split at h
    · rename_i k
      cases h
      exact ⟨k, rfl⟩
    · cases h
  unfold mtI
  cases e : (four.findSome? fun n => four.findSome? fun m => mtC f r s g r' s' n m) with
  | none =>
    have : fit f r s g r' s' = false := by
      rw [← Bool.not_eq_true]
      intro h
      obtain ⟨n, hn, m, hm, h⟩ := fit_iff.mp h
      have h1 := List.findSome?_eq_none_iff.mp e n hn
      have h2 := List.findSome?_eq_none_iff.mp h1 m hm
      unfold mtC at h2
      rw [(meet_parts h).1, if_pos rfl] at h2
      cases h2
    rw [this]
    rfl
  | some v =>
    obtain ⟨n, hn, h1⟩ := List.exists_of_findSome?_eq_some e
    obtain ⟨m, hm, h2⟩ := List.exists_of_findSome?_eq_some h1
    obtain ⟨h3, h4⟩ := mc n m v h2
    show decide (v = 1) = _
    cases k : meet f r s g r' s' n m
    · rw [k, if_neg (by decide)] at h4
      have : fit f r s g r' s' = false := by
        rw [← Bool.not_eq_true]
        intro h
        obtain ⟨n', hn', m', hm', h⟩ := fit_iff.mp h
        obtain ⟨g1, g2⟩ := meet_parts h
        obtain ⟨e1, e2⟩ := same_sh hn hm h3
        obtain ⟨e3, e4⟩ := same_sh hn' hm' g1
        obtain ⟨a1, a2, a3⟩ := tl_dirs T
        obtain ⟨b1, b2, b3⟩ := tl_dirs T'
        rcases one_edge r a1 s a2 a3 r' b1 s' b2 b3 n' hn' m' hm' e4 n hn m hm e2 (fun i hi => by rw [← e1 i (dirs_in hi).1 (dirs_in hi).2, ← e3 i (dirs_in hi).1 (dirs_in hi).2]) with ⟨rfl, rfl⟩ | z
        · rw [k] at h
          cases h
        · exact g2 z
      rw [this, h4]
      rfl
    · rw [k, if_pos rfl] at h4
      rw [fit_iff.mpr ⟨n, hn, m, hm, k⟩, h4]
      rfl
/-! tiles as the program takes them -/
theorem fT_at (f : Int → Int) (i : Int) (i0 : 0 ≤ i) (i4 : i ≤ 4) : fOf (tup5 f) i = f i := by
  show at5 (f 0) (f 1) (f 2) (f 3) (f 4) i = f i
  exact at5_at i0 i4
theorem ov_in {W : WD} {f : Int → Int} {r s : Int} {g : Int → Int} {r' s' : Int} {Q : D → Prop} {R : Er → Prop} (T : TileD (tl f r s) f r s) (T' : TileD (tl g r' s') g r' s') (h1 : Pk (tl f r s)) (h2 : Pk (tl g r' s')) (q : Q (.bl (ovl f r s g r' s'))) : sp_do_overlap W [tl f r s, tl g r' s'] Q R := by
  refine ⟨_, _, rfl, h1, h2, ?_⟩
  unfold ovO onT
  rw [if_pos (tile_y T), if_pos (tile_y T')]
  have e : ovl (fT (tl f r s)) r s (fT (tl g r' s')) r' s' = ovl f r s g r' s' := ovl_cong (fun i i0 i4 => by
    show fOf (tup5 g) i - fOf (tup5 f) i = _
    rw [fT_at g i i0 i4, fT_at f i i0 i4]) r s r' s'
  show Q (.bl (ovl (fT (tl f r s)) r s (fT (tl g r' s')) r' s'))
  rw [e]
  exact q
theorem fit_cong {f g f2 g2 : Int → Int} {r s r' s' : Int} (h : ∀ i, 0 ≤ i → i ≤ 4 → f2 i = f i) (k : ∀ i, 0 ≤ i → i ≤ 4 → g2 i = g i) : fit f2 r s g2 r' s' = fit f r s g r' s' := by
  have a : ∀ {f f2 : Int → Int} {r s : Int}, (∀ i, 0 ≤ i → i ≤ 4 → f2 i = f i) → ∀ n i, 0 ≤ i → i ≤ 4 → ef f2 r s n i = ef f r s n i := fun {f f2 r s} h n i i0 i4 => by
    match n with
    | 0 => exact h i i0 i4
    | 1 => exact h i i0 i4
    | 2 => show f2 i + _ = f i + _; rw [h i i0 i4]
    | n + 3 => show f2 i + _ = f i + _; rw [h i i0 i4]
  have b : ∀ {f f2 : Int → Int}, (∀ i, 0 ≤ i → i ≤ 4 → f2 i = f i) → sum5 f2 = sum5 f := fun {f f2} h => by
    unfold sum5
    rw [h 0 (by decide) (by decide), h 1 (by decide) (by decide), h 2 (by decide) (by decide), h 3 (by decide) (by decide), h 4 (by decide) (by decide)]
  have c : ∀ n m, meet f2 r s g2 r' s' n m = meet f r s g r' s' n m := fun n m => by
    unfold meet same sm5
    rw [b h, b k]
    rw [a h n 0 (by decide) (by decide), a h n 1 (by decide) (by decide), a h n 2 (by decide) (by decide), a h n 3 (by decide) (by decide), a h n 4 (by decide) (by decide), a k m 0 (by decide) (by decide), a k m 1 (by decide) (by decide), a k m 2 (by decide) (by decide), a k m 3 (by decide) (by decide), a k m 4 (by decide) (by decide)]
  unfold fit
  simp only [c]
theorem fi_in {W : WD} {f : Int → Int} {r s : Int} {g : Int → Int} {r' s' : Int} {Q : D → Prop} {R : Er → Prop} (T : TileD (tl f r s) f r s) (T' : TileD (tl g r' s') g r' s') (q : Q (.bl (fit f r s g r' s'))) : sp_does_fit W [tl f r s, tl g r' s'] Q R := by
  refine ⟨_, _, rfl, rp_tl f r s, rp_tl g r' s', ?_⟩
  unfold fitO onT
  rw [if_pos (tile_y T), if_pos (tile_y T')]
  have e : fit (fT (tl f r s)) r s (fT (tl g r' s')) r' s' = fit f r s g r' s' := fit_cong (fun i i0 i4 => fT_at f i i0 i4) (fun i i0 i4 => fT_at g i i0 i4)
  show Q (.bl (fit (fT (tl f r s)) r s (fT (tl g r' s')) r' s'))
  rw [e]
  exact q
theorem pk_tl {f : Int → Int} {r s : Int} (T : TileD (tl f r s) f r s) (hf : Szf 260 f) : Pk (tl f r s) := by
  have r0 := T.r0
  have rs := T.rs
  have s4 := T.s4
  exact pk_t (fc (p6_f hf) (fc (p6_i ((Sz.small (by omega) (by omega)).mono (by decide))) (fc (p6_i ((Sz.small (by omega) (by omega)).mono (by decide))) fn))) (Nat.le_of_ble_eq_true rfl)
theorem rok_due : ∀ o m : Bool, Rok (.lst [.tup [.bl o, .bl m], .tup [.bl o, .bl m]]) := by
  unfold Rok
  decide +kernel
theorem len__law_is_pair_right : ∀ W ds Q R, sp__law_is_pair_right W ds Q R → ds.length = 3 := by
  rintro W ds Q R ⟨d, l, x, y, rfl, rfl, _⟩
  rfl
theorem law__law_is_pair_right : ∀ W ds Q R, sp__law_is_pair_right W ds Q R → g__law_is_pair_right W R (endsD Q) (startD 5 ds) := by
  rintro W ds Q R ⟨d, l, _, _, rfl, rfl, ⟨f, r, s, rfl, hf, T⟩, ⟨g, r', s', rfl, hg, T'⟩, q⟩
  have p1 := pk_tl T (szf_mono hf (by decide))
  have p2 := pk_tl T' (szf_mono hg (by decide))
  have mt := mt_fit T T'
  have no : ¬ (ovl f r s g r' s' = true ∧ fit f r s g r' s' = true) := fun ⟨h, k⟩ => by
    rw [fit_ovl T T' k] at h
    cases h
  have os := ovl_sym f r s g r' s'
  have fs := fit_sym f r s g r' s'
  have ro := rok_due (ovl f r s g r' s') (fit f r s g r' s')
  unfold g__law_is_pair_right
  conv => whnf
  refine ⟨f, r, s, g, r', s', rfl, T, T', szf_mono hf (by decide), szf_mono hg (by decide), ?_⟩
  conv => whnf
  refine ⟨f, r, s, g, r', s', rfl, T, T', ?_⟩
  conv => whnf
  refine ⟨rfl, rfl, ?_⟩
  rw [eqb_i, mt]
  conv => whnf
  refine ⟨lsz' (by simp), ?_⟩
  conv => whnf
  refine ov_in (W := some (d, l)) T T' p1 p2 ?_
  conv => whnf
  refine fi_in (W := some (d, l)) T T' ?_
  conv => whnf
  refine ⟨lsz' (by simp), ?_⟩
  conv => whnf
  refine ⟨lsz' (by simp), ?_⟩
  conv => whnf
  refine ⟨_, rfl, ?_⟩
  conv => whnf
  refine ov_in (W := some (d, l)) T' T p2 p1 ?_
  rw [os]
  conv => whnf
  refine fi_in (W := some (d, l)) T' T ?_
  rw [fs]
  conv => whnf
  refine ⟨lsz' (by simp), ?_⟩
  conv => whnf
  refine ⟨lsz (by simp), ?_⟩
  generalize eo : ovl f r s g r' s' = o at *
  generalize fit f r s g r' s' = m at *
  conv => whnf
  refine ⟨ro.1, ro.2.1, ro.2.2.1, ro.len, ?_⟩
  conv => whnf
  refine ⟨lsz' (by simp), ?_⟩
  conv => whnf
  refine ⟨by decide, by decide, (show 2 ≤ sizeLine by decide), ?_⟩
  conv => whnf
  refine ⟨ro.1, ro.2.1, ro.2.2.1, ro.len, ?_⟩
  conv => whnf
  split
  · rename_i h
    have h : (!decide ((toPy (.lst [.tup [.bl o, .bl m], .tup [.bl o, .bl m]])).shown = (toPy (.lst [.tup [.bl o, .bl m], .tup [.bl o, .bl m]])).shown)) = true := h
    simp at h
  rename_i h
  clear h
  conv => whnf
  refine ⟨lsz' (by simp), ?_⟩
  conv => whnf
  refine ⟨rfl, rfl, ?_⟩
  have e2 : eqb (.tup [.bl o, .bl m]) (.tup [.bl true, .bl true]) = false := by
    show ((o == true) && ((m == true) && true)) = false
    cases o <;> cases m <;> simp_all
  rw [e2]
  conv => whnf
  refine ⟨_, _, _, rfl, rfl, by first | decide | omega, by first | decide | omega, fun x x0 x1 => ?_⟩
  conv => whnf
  by_cases h : x > 0
  · rw [decide_eq_true h]
    conv => whnf
    exact q
  · rw [decide_eq_false h]
    conv => whnf
    refine ⟨f, r, s, g, r', s', rfl, T, T', szf_mono hf (by decide), szf_mono hg (by decide), ?_⟩
    conv => whnf
    refine ⟨_, rfl, ?_⟩
    conv => whnf
    refine ⟨rfl, rfl, ?_⟩
    rw [eo]
    have e3 : (!eqb (.bl (!o)) (.bl o)) = true := by cases o <;> rfl
    rw [e3]
    exact q
theorem no_edge (x y : D) : noEdge (ovO x y) := by
  unfold ovO onT
  split
  · split
    · trivial
    · trivial
  · trivial
theorem rok_two {a b : D} (h1 : Pk a) (h2 : Pk b) : Rok (.tup [a, b]) := Pok.rok (pok_of (n := 7) (m := 260) (b := 470000) (fc h1 (fc h2 fn))).1 (by decide) (by decide) (show (470000 + 2) * 2 + 3 ≤ 16000000 by decide) rfl
theorem rok_said {a : D} (h : Pk a) {w : Str} (hw : PyData.strOk w = true) (hz : rsz (.str w) ≤ 470000) : Rok (.tup [.str w, a]) := rok_two ⟨by simpa [rp] using hw, rfl, hz⟩ h
theorem len__law_is_refusal_right : ∀ W ds Q R, sp__law_is_refusal_right W ds Q R → ds.length = 3 := by
  rintro W ds Q R ⟨d, l, x, y, rfl, rfl, _⟩
  rfl
theorem law__law_is_refusal_right : ∀ W ds Q R, sp__law_is_refusal_right W ds Q R → g__law_is_refusal_right W R (endsD Q) (startD 10 ds) := by
  rintro W ds Q R ⟨d, l, _, _, rfl, rfl, ⟨f, r, s, rfl, hf, T⟩, ⟨g, r', s', rfl, hg, T'⟩, q⟩
  have p1 := pk_tl T (szf_mono hf (by decide))
  have p2 := pk_tl T' (szf_mono hg (by decide))
  unfold g__law_is_refusal_right
  refine seq_mid (P := fun σ => ∃ a, Pk a ∧ σ = [.d (dkD d), .d (tl f r s), .d (tl g r' s'), .d a, .no, .no, .no, .no, .no, .no]) ?rest1 ?head1
  case head1 =>
    rintro E0 ert nx0
    conv => whnf
    refine ⟨_, _, _, rfl, rfl, by first | decide | omega, by first | decide | omega, fun x x0 x1 => ?_⟩
    conv => whnf
    by_cases h : x > 0
    · rw [decide_eq_true h]
      conv => whnf
      exact ⟨d, l, _, rfl, rfl, ⟨f, r, s, rfl, szf_mono hf (by decide), T⟩, fun y hy => nx0 _ ⟨y, hy, rfl⟩⟩
    · rw [decide_eq_false h]
      conv => whnf
      exact nx0 _ ⟨_, p1, rfl⟩
  rintro σ ⟨a, ha, rfl⟩
  refine seq_mid (P := fun σ => ∃ b, Pk b ∧ σ = [.d (dkD d), .d (tl f r s), .d (tl g r' s'), .d a, .d b, .no, .no, .no, .no, .no]) ?rest2 ?head2
  case head2 =>
    rintro E0 ert nx0
    conv => whnf
    refine ⟨_, _, _, rfl, rfl, by first | decide | omega, by first | decide | omega, fun x x0 x1 => ?_⟩
    conv => whnf
    by_cases h : x > 0
    · rw [decide_eq_true h]
      conv => whnf
      exact ⟨d, l, _, rfl, rfl, ⟨g, r', s', rfl, szf_mono hg (by decide), T'⟩, fun y hy => nx0 _ ⟨y, hy, rfl⟩⟩
    · rw [decide_eq_false h]
      conv => whnf
      exact nx0 _ ⟨_, p2, rfl⟩
  rintro σ ⟨b, hb, rfl⟩
  have r2 := rok_two ha hb
  refine seq_mid (P := fun σ => ∃ c, σ = [.d (dkD d), .d (tl f r s), .d (tl g r' s'), .d a, .d b, .d (.lst ([a, b].filter fun x => !isTile x)), .d (.str (toPy (.tup [a, b])).shown), .no, .no, c]) ?rest3 ?head3
  case head3 =>
    rintro E0 ert nx0
    conv => whnf
    refine ⟨lsz' (by simp), ?_⟩
    conv => whnf
    have rb := rp_mono _ 64 _ (by decide) hb.r
    refine ⟨a, rfl, rp_mono _ _ _ (by decide) ha.r, ?_⟩
    cases e1 : isTile a
    · conv => whnf
      refine ⟨lsz (by simp), ?_⟩
      conv => whnf
      refine ⟨b, rfl, rb, ?_⟩
      cases e2 : isTile b
      · have ef : [a, b].filter (fun x => !isTile x) = [a, b] := by simp [List.filter_cons, e1, e2]
        rw [ef] at nx0
        conv => whnf
        refine ⟨lsz (by simp), ?_⟩
        conv => whnf
        refine ⟨lsz' (by simp), ?_⟩
        conv => whnf
        refine ⟨r2.1, r2.2.1, r2.2.2.1, r2.len, ?_⟩
        conv => whnf
        refine ⟨rfl, ?_⟩
        exact nx0 _ ⟨_, rfl⟩
      · have ef : [a, b].filter (fun x => !isTile x) = [a] := by simp [List.filter_cons, e1, e2]
        rw [ef] at nx0
        conv => whnf
        refine ⟨lsz' (by simp), ?_⟩
        conv => whnf
        refine ⟨r2.1, r2.2.1, r2.2.2.1, r2.len, ?_⟩
        conv => whnf
        refine ⟨rfl, ?_⟩
        exact nx0 _ ⟨_, rfl⟩
    · conv => whnf
      refine ⟨b, rfl, rb, ?_⟩
      cases e2 : isTile b
      · have ef : [a, b].filter (fun x => !isTile x) = [b] := by simp [List.filter_cons, e1, e2]
        rw [ef] at nx0
        conv => whnf
        refine ⟨lsz (by simp), ?_⟩
        conv => whnf
        refine ⟨lsz' (by simp), ?_⟩
        conv => whnf
        refine ⟨r2.1, r2.2.1, r2.2.2.1, r2.len, ?_⟩
        conv => whnf
        refine ⟨rfl, ?_⟩
        exact nx0 _ ⟨_, rfl⟩
      · have ef : [a, b].filter (fun x => !isTile x) = [] := by simp [List.filter_cons, e1, e2]
        rw [ef] at nx0
        conv => whnf
        refine ⟨lsz' (by simp), ?_⟩
        conv => whnf
        refine ⟨r2.1, r2.2.1, r2.2.2.1, r2.len, ?_⟩
        conv => whnf
        refine ⟨rfl, ?_⟩
        exact nx0 _ ⟨_, rfl⟩
  rintro σ ⟨c, rfl⟩
  refine seq_mid (P := fun σ => ∃ c, σ = [.d (dkD d), .d (tl f r s), .d (tl g r' s'), .d a, .d b, .d (.lst ([a, b].filter fun x => !isTile x)), .d (.str (toPy (.tup [a, b])).shown), .d (badD (ovO a b)), .no, c]) ?rest4 ?head4
  case head4 =>
    rintro E0 ert nx0
    conv => whnf
    refine ⟨ovO a b, no_edge a b, fun Qd R h => ?_, nx0 _ ⟨_, rfl⟩⟩
    exact ⟨a, b, rfl, ha, hb, h⟩
  rintro σ ⟨c, rfl⟩
  refine seq_mid (P := fun σ => ∃ c, Rok (badD (ovO a b)) ∧ σ = [.d (dkD d), .d (tl f r s), .d (tl g r' s'), .d a, .d b, .d (.lst ([a, b].filter fun x => !isTile x)), .d (.str (toPy (.tup [a, b])).shown), .d (badD (ovO a b)), .d (badD (ovO a b)), c]) ?rest5 ?head5
  case head5 =>
    rintro E0 ert nx0
    have sB : PyData.strOk ("BadTile" : Str) = true := by decide +kernel
    have zB : rsz (.str "BadTile") ≤ 470000 := by decide +kernel
    have sR : PyData.strOk ("returned" : Str) = true := by decide +kernel
    have zR : rsz (.str "returned") ≤ 470000 := by decide +kernel
    cases e1 : isTile a
    · have eo : badD (ovO a b) = .tup [.str "BadTile", a] := by
        unfold ovO
        rw [e1, if_neg (by decide)]
        rfl
      rw [eo] at nx0 ⊢
      cases e2 : isTile b
      · have ef : [a, b].filter (fun x => !isTile x) = [a, b] := by simp [List.filter_cons, e1, e2]
        rw [ef] at nx0 ⊢
        conv => whnf
        refine ⟨lsz' (by simp), ?_⟩
        conv => whnf
        refine ⟨_, rfl, ?_⟩
        conv => whnf
        refine ⟨lsz' (by simp), ?_⟩
        conv => whnf
        exact nx0 _ ⟨_, rok_said ha sB zB, rfl⟩
      · have ef : [a, b].filter (fun x => !isTile x) = [a] := by simp [List.filter_cons, e1, e2]
        rw [ef] at nx0 ⊢
        conv => whnf
        refine ⟨lsz' (by simp), ?_⟩
        conv => whnf
        refine ⟨_, rfl, ?_⟩
        conv => whnf
        refine ⟨lsz' (by simp), ?_⟩
        conv => whnf
        exact nx0 _ ⟨_, rok_said ha sB zB, rfl⟩
    · cases e2 : isTile b
      · have eo : badD (ovO a b) = .tup [.str "BadTile", b] := by
          unfold ovO onT
          rw [e1, if_pos rfl, e2, if_neg (by decide)]
          rfl
        rw [eo] at nx0 ⊢
        have ef : [a, b].filter (fun x => !isTile x) = [b] := by
          simp [List.filter_cons, e1, e2]
        rw [ef] at nx0 ⊢
        conv => whnf
        refine ⟨lsz' (by simp), ?_⟩
        conv => whnf
        refine ⟨_, rfl, ?_⟩
        conv => whnf
        refine ⟨lsz' (by simp), ?_⟩
        conv => whnf
        exact nx0 _ ⟨_, rok_said hb sB zB, rfl⟩
      · have Ta := tile_n e1
        have Tb := tile_n e2
        have eo : badD (ovO a b) = .tup [.str "returned", .bl (ovl (fT a) (rT a) (sT a) (fT b) (rT b) (sT b))] := by
          unfold ovO onT
          rw [e1, if_pos rfl, e2, if_pos rfl]
          rfl
        rw [eo] at nx0 ⊢
        have ef : [a, b].filter (fun x => !isTile x) = [] := by
          simp [List.filter_cons, e1, e2]
        rw [ef] at nx0 ⊢
        conv => whnf
        refine ⟨lsz' (by simp), ?_⟩
        conv => whnf
        refine ⟨fT a, rT a, sT a, fT b, rT b, sT b, by rw [← Ta.e, ← Tb.e], ⟨rfl, Ta.k, Ta.r0, Ta.rs, Ta.s4⟩, ⟨rfl, Tb.k, Tb.r0, Tb.rs, Tb.s4⟩, szf_mono (fT_sz ha e1) (by decide), szf_mono (fT_sz hb e2) (by decide), ?_⟩
        conv => whnf
        refine ⟨lsz' (by simp), ?_⟩
        conv => whnf
        exact nx0 _ ⟨_, rok_said (⟨rfl, rfl, Nat.le_of_ble_eq_true rfl⟩ : Pk (.bl _)) sR zR, rfl⟩
  rintro σ ⟨c, ro, rfl⟩
  conv => whnf
  refine ⟨ro.1, ro.2.1, ro.2.2.1, ro.len, ?_⟩
  conv => whnf
  refine ⟨ro.1, ro.2.1, ro.2.2.1, ro.len, ?_⟩
  conv => whnf
  split
  · rename_i h
    clear h
    conv => whnf
    refine ⟨lsz' (by simp), ?_⟩
    conv => whnf
    refine ⟨r2.1, r2.2.1, r2.2.2.1, r2.len, ?_⟩
    conv => whnf
    have e : ∀ s : Str, decide (s = s) = true := fun s => decide_eq_true rfl
    rw [← e ((toPy (.tup [a, b])).shown)] at q
    exact q
  · rename_i h
    have h : decide ((toPy (badD (ovO a b))).shown = (toPy (badD (ovO a b))).shown) = false := h
    simp at h
theorem rok_bb : Rok (.tup [.bl true, .bl false]) := by
  unfold Rok
  decide +kernel
theorem said_bb : (toPy (.tup [.bl true, .bl false])).shown = "(True, False)" := by decide +kernel
theorem IsT.up {n m : Nat} {x : D} (h : IsT n x) (e : n ≤ m) : IsT m x := by
  obtain ⟨f, r, s, rfl, hf, T⟩ := h
  exact ⟨f, r, s, rfl, szf_mono hf e, T⟩
theorem law_law : ∀ (d l : Addr) (v : V), g_law (some (d, l)) (fun _ => False) (endsD fun r => r = .bl true) (.d (.opq v) :: .d (.opq (.ref d)) :: List.replicate 6 .no) := by
  intro d l v
  unfold g_law
  refine seq_mid (P := fun σ => ∃ x, IsT 110 x ∧ σ = [.d (.opq v), .d (dkD d), .d x, .no, .no, .no, .no, .no]) ?rest1 ?head1
  case head1 =>
    rintro E0 ert nx0
    conv => whnf
    exact ⟨d, l, rfl, rfl, fun x hx => nx0 _ ⟨x, hx, rfl⟩⟩
  rintro σ ⟨_, ⟨f, r, s, rfl, hf, T⟩, rfl⟩
  refine seq_mid (P := fun σ => σ = [.d (.opq v), .d (dkD d), .d (tl f r s), .no, .no, .no, .no, .no]) ?rest2 ?head2
  case head2 =>
    rintro E0 ert nx0
    have p1 := pk_tl T (szf_mono hf (by decide))
    conv => whnf
    refine ov_in (W := some (d, l)) T T p1 p1 ?_
    rw [ovl_self (sm5_refl f) T]
    conv => whnf
    refine fi_in (W := some (d, l)) T T ?_
    rw [fit_self T]
    conv => whnf
    refine ⟨lsz' (by simp), ?_⟩
    conv => whnf
    refine ⟨rok_bb.1, rok_bb.2.1, rok_bb.2.2.1, rok_bb.len, ?_⟩
    rw [said_bb]
    conv => whnf
    exact nx0 _ rfl
  rintro σ rfl
  refine seq_mid (P := fun σ => ∃ x a b, IsT 200 x ∧ σ = [.d (.opq v), .d (dkD d), .d x, a, .no, .no, .no, b]) ?rest3 ?head3
  case head3 =>
    rintro E0 ert nx0
    conv => whnf
    refine ⟨lsz' (by simp), ?_⟩
    conv => whnf
    refine ⟨d, l, [.int 6, .int 4, .int 9], rfl, .inl rfl, by decide, by decide, fun x hx => ?_⟩
    obtain ⟨m, rfl, hm⟩ : ∃ m : Nat, x = .int m ∧ m ≤ 9 := by
      simp only [List.mem_cons, List.not_mem_nil, or_false] at hx
      rcases hx with rfl | rfl | rfl
      · exact ⟨6, rfl, by decide⟩
      · exact ⟨4, rfl, by decide⟩
      · exact ⟨9, rfl, by decide⟩
    conv => whnf
    refine ⟨m, rfl, by omega, by omega, ?_⟩
    rw [show ((m : Int)).toNat = m from rfl]
    refine forL_in ?_
    refine forG_rng (S := fun j σ => ∃ x a b, IsT (110 + 9 * j) x ∧ σ = [.d (.opq v), .d (dkD d), .d x, a, .no, .no, .no, b]) 0 m _ ⟨_, _, _, ⟨f, r, s, rfl, szf_mono hf (by decide), T⟩, rfl⟩ ?_ ?_
    · rintro σ ⟨x, a, b, hx, rfl⟩
      exact nx0 _ ⟨x, a, b, hx.up (by omega), rfl⟩
    · rintro k hk σ ⟨x, a, b, hx, rfl⟩ E' hrt hnx hct
      show gSeq (gSet 7 _) (gSeq _ _) _ [.d (.opq v), .d (dkD d), .d x, .d (.int (0 + (k : Int))), .no, .no, .no, b]
      refine seq_mid (P := fun σ => ∃ y a, IsT (110 + 9 * (k + 1)) y ∧ σ = [.d (.opq v), .d (dkD d), .d x, a, .no, .no, .no, .d y]) ?_ ?_
      rotate_left
      · rintro E1 ert1 nx1
        conv => whnf
        refine ⟨_, _, _, rfl, rfl, by first | decide | omega, by first | decide | omega, fun t t0 t1 => ?_⟩
        conv => whnf
        by_cases h : t > 0
        · rw [decide_eq_true h]
          conv => whnf
          exact ⟨d, l, x, 110 + 9 * k, rfl, rfl, hx, by omega, fun y hy => nx1 _ ⟨y, _, hy.up (by omega), rfl⟩⟩
        · rw [decide_eq_false h]
          conv => whnf
          exact ⟨d, l, rfl, rfl, fun y hy => nx1 _ ⟨y, _, hy.up (by omega), rfl⟩⟩
      rintro σ ⟨y, a, hy, rfl⟩
      conv => whnf
      refine ⟨d, l, x, y, rfl, rfl, hx.up (by omega), hy.up (by omega), ?_⟩
      conv => whnf
      refine ⟨d, l, x, y, rfl, rfl, hx.up (by omega), hy.up (by omega), ?_⟩
      conv => whnf
      refine ⟨lsz' (by simp), ?_⟩
      conv => whnf
      refine ⟨d, l, [x, y], rfl, .inl rfl, by simp, by simp, fun z hz => ?_⟩
      refine hnx _ ⟨z, _, _, ?_, rfl⟩
      simp only [List.mem_cons, List.not_mem_nil, or_false] at hz
      rcases hz with rfl | rfl
      · exact hx.up (by omega)
      · exact hy
  rintro σ ⟨_, a, b, ⟨f, r, s, rfl, hf, T⟩, rfl⟩
  conv => whnf
  refine ⟨f, r, s, rfl, T, ?_⟩
  conv => whnf
  refine ⟨d, l, four.map (mdD f r s), rfl, .inl rfl, by simp, by simp, fun z hz => ?_⟩
  obtain ⟨n, hn, rfl⟩ := List.mem_map.mp hz
  obtain ⟨_, j0, j4⟩ := cor_ef T hn
  have ze : Szf 201 (ef f r s n) := by
    rcases four_or hn with rfl | rfl | rfl | rfl
    · exact szf_mono hf (by decide)
    · exact szf_mono hf (by decide)
    · exact hf.rz (by decide) (by decide) (by decide)
    · exact hf.rz (by decide) (by decide) (by decide)
  conv => whnf
  refine ⟨_, rfl, rfl, ?_⟩
  conv => whnf
  refine ⟨ef f r s n, ej r s n, _, 201, rfl, j0, j4, ze, by decide, fun L1 h1 l1 => ?_⟩
  conv => whnf
  refine ⟨ef f r s n, ej r s n, _, 201, rfl, j0, j4, ze, by decide, fun L2 h2 l2 => ?_⟩
  conv => whnf
  refine ⟨lsz' (by omega), ?_⟩
  conv => whnf
  refine forL_in ?_
  refine forG_inv (fun ds σ => ∃ e5 e4 e6 e3 y, (∀ x ∈ ds, IsT 202 x) ∧ σ = [.d (.opq v), .d (dkD d), .d (tl f r s), e3, e4, e5, e6, y]) ?_ ?_ _ _ ⟨_, _, _, _, _, fun x hx => ?_, rfl⟩
  · rintro σ ⟨e5, e4, e6, e3, y, _, rfl⟩
    conv => whnf
  · rintro z zs σ ⟨e5, e4, e6, e3, y, hT, rfl⟩ E' hrt hbk hnx hct
    conv => whnf
    refine ⟨d, l, tl f r s, z, rfl, rfl, ⟨f, r, s, rfl, szf_mono hf (by decide), T⟩, (hT z List.mem_cons_self).up (by decide), ?_⟩
    conv => whnf
    exact hnx _ ⟨_, _, _, _, _, fun x hx => hT x (List.mem_cons_of_mem _ hx), rfl⟩
  · rcases List.mem_append.mp hx with hx | hx
    · exact h1 x hx
    · exact h2 x hx
set_option maxHeartbeats 8000000
section
variable {P : Program} {w : World} {K : PySem.W.Frag} {mg : Str → Option Value} {base : Heap} {T : List (Addr × Str)}
theorem ok__law_draw {f : Addr} {fd : FuncData} (bt : Bt mg) (hm : mg "_law_draw" = some (.ref f)) (F : Fun K "_law_draw" "_law_draw" (top 48) f fd) : OkD P w K mg base T "_law_draw" (top 48) 1 ["_law_deck_here", "_law_many"] spDraw := by
  refine ⟨f, fd, hm, F, okDraw (c := 61473) F sc__law_draw rfl rfl (small64 (by decide) (by decide)) fun cdv A outer s H E hr => ?_⟩
  have hu := hu_of hr
  have h64 := hr.units
  have nd := sc__law_draw.nd
  have it : ∀ {t : Str}, t = t := rfl
  exact pss_cons (ps_dput hu (pv 0) pe_str (pe_op op_add (pe_dget hu (pv 0) pe_str nosl) pe_int) rfl)
    (pss_cons (ps_set (i := 2) nd rfl (Or.inl rfl) (pe_op op_add (pe_dget hu (pv 0) pe_str nosl) (pe_op op_mul pe_int (pe_dget hu (pv 0) pe_str nosl))))
    (pss_cons (ps_if (pt_cmpR (op_neD h64) (pe_dget hu (pv 0) pe_str nosl) (pe_lst pa_nil) (nomark _))
      (pss_cons (ps_set (i := 3) nd rfl (Or.inl rfl) (pe_bm0 PySem.F.plainAttrs_list PySem.F.slot_list_pop PySem.F.type_list_pop mt_pop (pe_dget hu (pv 0) pe_str nosl)))
      (pss_cons (ps_if (pt_cmpR op_ge (pv 3) (pe_op op_pow pe_int pe_int) (nomark _))
        (pss_cons (ps_expr (pe_bm PySem.F.plainAttrs_list PySem.F.slot_list_append PySem.F.type_list_append mt_append (pe_dget hu (pv 0) pe_str nosl) (pa_cons (pe_op op_fdivW (pv 3) (pe_callB (call_max2 rfl) rfl bt.b_max nbMax (pa_cons pe_int (pa_cons (pv 1) pa_nil)))) pa_nil)))
        (pss_one (ps_ret (pe_op op_mod (pe_callTy call_int1 rfl bt.b_int nbInt (pa_cons (pv 3) pa_nil)) (pv 1)))))
        pss_nil)
      (pss_one (ps_set (i := 2) nd rfl (Or.inl rfl) (pe_op op_add (pv 2) (pe_op op_mod (pe_callTy call_int1 rfl bt.b_int nbInt (pa_cons (pv 3) pa_nil)) pe_int))))))
      pss_nil)
    (pss_cons (ps_set (i := 2) nd rfl (Or.inl rfl) (pe_op op_mod (pe_callTy call_int1 rfl bt.b_int nbInt (pa_cons (pe_op op_add (pe_op op_mul (pv 2) pe_int) pe_int) pa_nil)) pe_int))
    (pss_cons (ps_set (i := 2) nd rfl (Or.inl rfl) (pe_op op_mod (pe_callTy call_int1 rfl bt.b_int nbInt (pa_cons (pe_op op_add (pe_op op_add (pe_op op_mul (pv 2) (pv 2)) (pe_op op_mul pe_int (pe_dget hu (pv 0) pe_str nosl))) pe_int) pa_nil)) pe_int))
    (pss_cons (ps_set (i := 2) nd rfl (Or.inl rfl) (pe_op op_mod (pe_callTy call_int1 rfl bt.b_int nbInt (pa_cons (pe_op op_mul (pv 2) pe_int) pa_nil)) pe_int))
    (pss_one (ps_ret (pe_op op_mod (pe_callTy call_int1 rfl bt.b_int nbInt (pa_cons (pe_op op_fdivW (pv 2) pe_int) pa_nil)) (pv 1)))))))))
theorem ok__law_deck {f : Addr} {fd : FuncData} (bt : Bt mg) (F : Fun K "_law_deck" "_law_deck" (top 47) f fd) : FnOk P w K mg base (L2.CX P w) 1 f fd ["_law_script"] (spDeck K) := by
  refine okDeck (c := (10879000 + 92)) (b := 92) F sc__law_deck rfl rfl rfl (by decide) fun cdv A outer s H E hr => ?_
  have nd := sc__law_deck.nd
  exact pss_cons (ps_set (i := 1) nd rfl (Or.inl rfl) (pe_op op_add pe_int pe_int))
    (pss_cons (ps_for (passes_of rfl) rfl (pi_list (pe_slice sl_list (pv 0) po_none (po_some pe_int))) (pg_name (i := 2) nd rfl (Or.inl rfl))
      (pss_one (ps_set (i := 1) nd rfl (Or.inl rfl) (pe_op op_mod (pe_callTy call_int1 rfl bt.b_int nbInt (pa_cons (pe_op op_add (pe_op op_add (pe_op op_mul (pv 1) pe_int) (pe_op op_mod (pe_callTy call_int1 rfl bt.b_int nbInt (pa_cons (pv 2) pa_nil)) pe_int)) pe_int) pa_nil)) pe_int))))
    (pss_one (ps_ret (pe_disp (pps_cons pe_str (pe_revL (pe_callTy call_list_of rfl bt.b_list nbList (pa_cons (pe_slice sl_list (pv 0) po_none (po_some pe_int)) pa_nil))) (pps_cons pe_str (pv 1) (pps_cons pe_str pe_int pps_nil))) rfl rfl (by simp) (by decide)))))
theorem ok_is_integer {f : Addr} {fd : FuncData} (bt : Bt mg) (ct : Ct K mg) (hm : mg "is_integer" = some (.ref f)) (F : Fun K "is_integer" "is_integer" (top 7) f fd)  : OkD P w K mg base T "is_integer" (top 7) 1 ["thing"] sp_is_integer := by
  refine ⟨f, fd, hm, F, okD (g := g_is_integer) F sc_is_integer len_is_integer (fun cdv A outer s H E W F R hr hE hp hx => ?_) law_is_integer⟩
  have nd := sc_is_integer.nd
  have hu65 := hu65_of hr
  exact (sds_one (sd_ret (ed_and (ed_callB c_isi (by rfl) bt.b_isinstance nbIsi (abd_cons (ed_var 0 (pv 0)).toB (abd_cons (ed_ty (by rfl) bt.b_int nbInt).toB abd_nil))) (ed_one (ed_not (ed_callB c_isi (by rfl) bt.b_isinstance nbIsi (abd_cons (ed_var 0 (pv 0)).toB (abd_cons (ed_ty (by rfl) bt.b_bool nbBool).toB abd_nil))).toB)))))
theorem ok_normal {f : Addr} {fd : FuncData} (bt : Bt mg) (ct : Ct K mg) (hm : mg "normal" = some (.ref f)) (F : Fun K "normal" "normal" (top 9) f fd)  : OkD P w K mg base T "normal" (top 9) 1 ["a", "b", "d"] sp_normal := by
  refine ⟨f, fd, hm, F, okD (g := g_normal) F sc_normal len_normal (fun cdv A outer s H E W F R hr hE hp hx => ?_) law_normal⟩
  have nd := sc_normal.nd
  have hu65 := hu65_of hr
  exact (sds_cons (sd_set (i := 3) nd rfl (Or.inl rfl) (ed_callFun c_gcd (by rfl) bt.f_gcd (abd_cons (ed_callFun c_gcd (by rfl) bt.f_gcd (abd_cons (ed_var 0 (pv 0)).toB (abd_cons (ed_var 1 (pv 1)).toB abd_nil))).toB (abd_cons (ed_var 2 (pv 2)).toB abd_nil))))
      (sds_cons (sd_if (td_cmp o_lt (ed_var 2 (pv 2)).toB ed_int.toB (nomark _)) (sds_one (sd_set (i := 3) nd rfl (Or.inl rfl) (ed_un o_neg (ed_var 3 (pv 3)).toB))) sds_nil)
      (sds_one (sd_ret (ed_tup (ad_cons (ed_bin o_fdivA (ed_var 0 (pv 0)).toB (ed_var 3 (pv 3)).toB) (ad_cons (ed_bin o_fdivA (ed_var 1 (pv 1)).toB (ed_var 3 (pv 3)).toB) (ad_cons (ed_bin o_fdivA (ed_var 2 (pv 2)).toB (ed_var 3 (pv 3)).toB) ad_nil))))))))
theorem ok_pair_sign {f : Addr} {fd : FuncData} (bt : Bt mg) (ct : Ct K mg) (hm : mg "pair_sign" = some (.ref f)) (F : Fun K "pair_sign" "pair_sign" (top 10) f fd)  : OkD P w K mg base T "pair_sign" (top 10) 1 ["a", "b"] sp_pair_sign := by
  refine ⟨f, fd, hm, F, okD (g := g_pair_sign) F sc_pair_sign len_pair_sign (fun cdv A outer s H E W F R hr hE hp hx => ?_) law_pair_sign⟩
  have nd := sc_pair_sign.nd
  have hu65 := hu65_of hr
  exact (sds_cons (sd_set (i := 2) nd rfl (Or.inl rfl) (ed_bin o_add (ed_bin o_mul ed_int.toB (ed_var 0 (pv 0)).toB).toB (ed_var 1 (pv 1)).toB))
      (sds_cons (sd_if (wd_and (td_cmp o_ge (ed_var 2 (pv 2)).toB ed_int.toB (nomark _)) (wd_and1 (td_cmp o_ge (ed_var 1 (pv 1)).toB ed_int.toB (nomark _)))).t (sds_one (sd_ret (ed_if (wd_or (td_cmp o_gt (ed_var 2 (pv 2)).toB ed_int.toB (nomark _)) (wd_or1 (td_cmp o_gt (ed_var 1 (pv 1)).toB ed_int.toB (nomark _)))).t ed_int ed_int))) sds_nil)
      (sds_cons (sd_if (wd_and (td_cmp o_le (ed_var 2 (pv 2)).toB ed_int.toB (nomark _)) (wd_and1 (td_cmp o_le (ed_var 1 (pv 1)).toB ed_int.toB (nomark _)))).t (sds_one (sd_ret (ed_un o_neg ed_int.toB))) sds_nil)
      (sds_cons (sd_set (i := 3) nd rfl (Or.inl rfl) (ed_cmp o_gt (ed_bin o_mul (ed_var 2 (pv 2)).toB (ed_var 2 (pv 2)).toB).toB (ed_bin o_mul (ed_bin o_mul ed_int.toB (ed_var 1 (pv 1)).toB).toB (ed_var 1 (pv 1)).toB).toB (nomark _)))
      (sds_cons (sd_if (td_cmp o_gt (ed_var 2 (pv 2)).toB ed_int.toB (nomark _)) (sds_one (sd_ret (ed_if (td_val (ed_var 3 (pv 3)).toB) ed_int (ed_un o_neg ed_int.toB)))) sds_nil)
      (sds_one (sd_ret (ed_if (td_val (ed_var 3 (pv 3)).toB) (ed_un o_neg ed_int.toB) ed_int))))))))
theorem ok_negative {f : Addr} {fd : FuncData} (bt : Bt mg) (ct : Ct K mg) (hm : mg "negative" = some (.ref f)) (F : Fun K "negative" "negative" (top 13) f fd)  : OkD P w K mg base T "negative" (top 13) 1 ["one"] sp_negative := by
  refine ⟨f, fd, hm, F, okD (g := g_negative) F sc_negative len_negative (fun cdv A outer s H E W F R hr hE hp hx => ?_) law_negative⟩
  have nd := sc_negative.nd
  have hu65 := hu65_of hr
  exact (sds_one (sd_ret (ed_tup (ad_cons (ed_un o_neg (ed_ix (ed_var 0 (pv 0)).toB ed_int.toB).toB) (ad_cons (ed_un o_neg (ed_ix (ed_var 0 (pv 0)).toB ed_int.toB).toB) (ad_cons (ed_ix (ed_var 0 (pv 0)).toB ed_int.toB) ad_nil))))))
theorem ok_raised {f : Addr} {fd : FuncData} (bt : Bt mg) (ct : Ct K mg) (hm : mg "raised" = some (.ref f)) (F : Fun K "raised" "raised" (top 22) f fd)  : OkD P w K mg base T "raised" (top 22) 1 ["row", "direction"] sp_raised := by
  refine ⟨f, fd, hm, F, okD (g := g_raised) F sc_raised len_raised (fun cdv A outer s H E W F R hr hE hp hx => ?_) law_raised⟩
  have nd := sc_raised.nd
  have hu65 := hu65_of hr
  exact (sds_cons (sd_setL (i := 2) nd rfl (Or.inl rfl) (fd_callTy c_list (by rfl) bt.b_list nbList (abd_cons (ed_var 0 (pv 0)).toB abd_nil)))
      (sds_cons (sd_augI (pv 2) (ed_bin o_mod (ed_var 1 (pv 1)).toB ed_int.toB).toB ed_int.toB o_iadd)
      (sds_one (sd_ret (ed_callTy c_tuple (by rfl) bt.b_tuple nbTuple (abd_cons (bd_var 2 (pv 2)) abd_nil))))))
theorem ok_are_near {f : Addr} {fd : FuncData} (bt : Bt mg) (ct : Ct K mg) (hm : mg "are_near" = some (.ref f)) (F : Fun K "are_near" "are_near" (top 23) f fd)  : OkD P w K mg base T "are_near" (top 23) 1 ["r", "s"] sp_are_near := by
  refine ⟨f, fd, hm, F, okD (g := g_are_near) F sc_are_near len_are_near (fun cdv A outer s H E W F R hr hE hp hx => ?_) law_are_near⟩
  have nd := sc_are_near.nd
  have hu65 := hu65_of hr
  exact (sds_one (sd_ret (ed_cmp (o_in hu65) (ed_bin o_mod (ed_bin o_sub (ed_var 0 (pv 0)).toB (ed_var 1 (pv 1)).toB).toB ed_int.toB).toB (ed_tup (ad_cons ed_int (ad_cons ed_int ad_nil))).toB (by rfl))))
theorem ok_lies_left {f : Addr} {fd : FuncData} (bt : Bt mg) (ct : Ct K mg) (hm : mg "lies_left" = some (.ref f)) (F : Fun K "lies_left" "lies_left" (top 36) f fd)  : OkD P w K mg base T "lies_left" (top 36) 1 ["tile", "number"] sp_lies_left := by
  refine ⟨f, fd, hm, F, okD (g := g_lies_left) F sc_lies_left len_lies_left (fun cdv A outer s H E W F R hr hE hp hx => ?_) law_lies_left⟩
  have nd := sc_lies_left.nd
  have hu65 := hu65_of hr
  exact (sds_cons (sd_setT (is := [2, 3]) rfl (na_cons (pg_name (i := 2) nd rfl (Or.inl rfl)) (na_cons (pg_name (i := 3) nd rfl (Or.inl rfl)) na_nil)) (ed_if (td_cmp (o_in hu65) (ed_var 1 (pv 1)).toB (ed_tup (ad_cons ed_int (ad_cons ed_int ad_nil))).toB (by rfl)) (ed_tup (ad_cons (ed_ix (ed_var 0 (pv 0)).toB ed_int.toB) (ad_cons (ed_ix (ed_var 0 (pv 0)).toB ed_int.toB) ad_nil))) (ed_tup (ad_cons (ed_ix (ed_var 0 (pv 0)).toB ed_int.toB) (ad_cons (ed_ix (ed_var 0 (pv 0)).toB ed_int.toB) ad_nil)))))
      (sds_cons (sd_set (i := 4) nd rfl (Or.inl rfl) (ed_cmp (o_in hu65) (ed_bin o_mod (ed_bin o_sub (ed_var 3 (pv 3)).toB (ed_var 2 (pv 2)).toB).toB ed_int.toB).toB (ed_tup (ad_cons ed_int (ad_cons ed_int ad_nil))).toB (by rfl)))
      (sds_one (sd_ret (ed_cmp (o_eq hr.units) (ed_var 4 (pv 4)).toB (ed_cmp o_lt (ed_var 1 (pv 1)).toB ed_int.toB (nomark _)).toB (nomark _))))))
theorem ok_beside {f : Addr} {fd : FuncData} (bt : Bt mg) (ct : Ct K mg) (hm : mg "beside" = some (.ref f)) (F : Fun K "beside" "beside" (top 39) f fd)  : OkD P w K mg base T "beside" (top 39) 1 ["row", "direction"] sp_beside := by
  refine ⟨f, fd, hm, F, okD (g := g_beside) F sc_beside len_beside (fun cdv A outer s H E W F R hr hE hp hx => ?_) law_beside⟩
  have nd := sc_beside.nd
  have hu65 := hu65_of hr
  exact (sds_cons (sd_set (i := 2) nd rfl (Or.inl rfl) (ed_bin o_sub (ed_ix (ed_var 0 (pv 0)).toB (ed_bin o_mod (ed_bin o_add (ed_var 1 (pv 1)).toB ed_int.toB).toB ed_int.toB).toB).toB (ed_ix (ed_var 0 (pv 0)).toB (ed_bin o_mod (ed_bin o_sub (ed_var 1 (pv 1)).toB ed_int.toB).toB ed_int.toB).toB).toB))
      (sds_cons (sd_set (i := 3) nd rfl (Or.inl rfl) (ed_bin o_sub (ed_ix (ed_var 0 (pv 0)).toB (ed_bin o_mod (ed_bin o_add (ed_var 1 (pv 1)).toB ed_int.toB).toB ed_int.toB).toB).toB (ed_ix (ed_var 0 (pv 0)).toB (ed_bin o_mod (ed_bin o_sub (ed_var 1 (pv 1)).toB ed_int.toB).toB ed_int.toB).toB).toB))
      (sds_one (sd_ret (ed_tup (ad_cons (ed_bin o_sub (ed_bin o_mul ed_int.toB (ed_var 2 (pv 2)).toB).toB (ed_var 3 (pv 3)).toB) (ad_cons (ed_bin o_add (ed_bin o_mul ed_int.toB (ed_var 3 (pv 3)).toB).toB (ed_var 2 (pv 2)).toB) (ad_cons ed_int ad_nil))))))))
theorem ok__law_sign {f : Addr} {fd : FuncData} (bt : Bt mg) (ct : Ct K mg) (hm : mg "_law_sign" = some (.ref f)) (F : Fun K "_law_sign" "_law_sign" (top 50) f fd)  : OkD P w K mg base T "_law_sign" (top 50) 1 ["_law_a", "_law_b"] sp__law_sign := by
  refine ⟨f, fd, hm, F, okD (g := g__law_sign) F sc__law_sign len__law_sign (fun cdv A outer s H E W F R hr hE hp hx => ?_) law__law_sign⟩
  have nd := sc__law_sign.nd
  have hu65 := hu65_of hr
  exact (sds_cons (sd_set (i := 2) nd rfl (Or.inl rfl) (ed_bin o_add (ed_bin o_mul ed_int.toB (ed_var 0 (pv 0)).toB).toB (ed_var 1 (pv 1)).toB))
      (sds_cons (sd_if (td_cmp o_ge (ed_bin o_mul (ed_var 2 (pv 2)).toB (ed_var 1 (pv 1)).toB).toB ed_int.toB (nomark _)) (sds_one (sd_ret (ed_bin o_sub (ed_callTy (c_intB ct.dig) (by rfl) bt.b_int nbInt (abd_cons (ed_cmp o_gt (ed_bin o_add (ed_var 2 (pv 2)).toB (ed_var 1 (pv 1)).toB).toB ed_int.toB (nomark _)).toB abd_nil)).toB (ed_callTy (c_intB ct.dig) (by rfl) bt.b_int nbInt (abd_cons (ed_cmp o_lt (ed_bin o_add (ed_var 2 (pv 2)).toB (ed_var 1 (pv 1)).toB).toB ed_int.toB (nomark _)).toB abd_nil)).toB))) sds_nil)
      (sds_cons (sd_set (i := 3) nd rfl (Or.inl rfl) (ed_if (td_cmp o_gt (ed_bin o_mul (ed_var 2 (pv 2)).toB (ed_var 2 (pv 2)).toB).toB (ed_bin o_mul (ed_bin o_mul ed_int.toB (ed_var 1 (pv 1)).toB).toB (ed_var 1 (pv 1)).toB).toB (nomark _)) (ed_var 2 (pv 2)) (ed_var 1 (pv 1))))
      (sds_one (sd_ret (ed_if (td_cmp o_gt (ed_var 3 (pv 3)).toB ed_int.toB (nomark _)) ed_int (ed_un o_neg ed_int.toB)))))))
theorem ok__law_is_integer {f : Addr} {fd : FuncData} (bt : Bt mg) (ct : Ct K mg) (hm : mg "_law_is_integer" = some (.ref f)) (F : Fun K "_law_is_integer" "_law_is_integer" (top 51) f fd)  : OkD P w K mg base T "_law_is_integer" (top 51) 1 ["_law_thing"] sp__law_is_integer := by
  refine ⟨f, fd, hm, F, okD (g := g__law_is_integer) F sc__law_is_integer len__law_is_integer (fun cdv A outer s H E W F R hr hE hp hx => ?_) law__law_is_integer⟩
  have nd := sc__law_is_integer.nd
  have hu65 := hu65_of hr
  exact (sds_one (sd_ret (ed_and (ed_callB c_isi (by rfl) bt.b_isinstance nbIsi (abd_cons (ed_var 0 (pv 0)).toB (abd_cons (ed_ty (by rfl) bt.b_int nbInt).toB abd_nil))) (ed_one (ed_not (ed_callB c_isi (by rfl) bt.b_isinstance nbIsi (abd_cons (ed_var 0 (pv 0)).toB (abd_cons (ed_ty (by rfl) bt.b_bool nbBool).toB abd_nil))).toB)))))
theorem ok__law_up {f : Addr} {fd : FuncData} {dvs : List V} (bt : Bt mg) (ct : Ct K mg) (hm : mg "_law_up" = some (.ref f)) (F : FunD K "_law_up" "_law_up" (defArgs (top 52)) (defBody (top 52)) (defScope (top 52)) dvs [] f fd) (hd : dvs ≠ []) (hD : ∀ F, Reps ⟨K, mg⟩ F dvs [.int 1])  : OkV P w K mg base T "_law_up" (top 52) 1 ["_law_k", "_law_j", "_law_much"] [.int 1] sp__law_up := by
  refine ⟨f, fd, dvs, hm, F, hd, hD, okVd (g := g__law_up) F sc__law_up len__law_up (fun cdv A outer s H E W F R hr hE hp hx => ?_) law__law_up⟩
  have nd := sc__law_up.nd
  have hu65 := hu65_of hr
  exact (sds_one (sd_ret (ed_bin o_add (ed_bin o_add (ed_sl (ed_var 0 (pv 0)).toB od_none (od_some (ed_var 1 (pv 1)))).toB (ed_tup (ad_cons (ed_bin o_add (ed_ix (ed_var 0 (pv 0)).toB (ed_var 1 (pv 1)).toB).toB (ed_var 2 (pv 2)).toB) ad_nil)).toB).toB (ed_sl (ed_var 0 (pv 0)).toB (od_some (ed_bin o_add (ed_var 1 (pv 1)).toB ed_int.toB)) od_none).toB)))
theorem ok__law_bad {f : Addr} {fd : FuncData} (bt : Bt mg) (ct : Ct K mg) (hm : mg "_law_bad" = some (.ref f)) (F : Fun K "_law_bad" "_law_bad" (top 64) f fd)  : ∀ k, OkL P w K mg base T "_law_bad" (top 64) k ["_law_call", "_law_told", "_law_e"] "_law_call" sp__law_bad := by
  intro k
  obtain ⟨D_BadTile, g_BadTile⟩ := ct.g_BadTile
  refine okL2 (g := g__law_bad) hm F sc__law_bad (fun cdv A outer s H W F f0 act_ hr act => ?_) law__law_bad
  have nd := sc__law_bad.nd
  have hu65 := hu65_of hr
  exact (sds_cons (sd_set (i := 1) nd rfl (Or.inl rfl) ed_non)
      (sds_cons (sd_tryN (X := (cxL P w K mg base ["_law_call", "_law_told", "_law_e"] "_law_bad" (top 64) f cdv A outer s H).nox) (M := clsM) (E := fun _ _ _ => False) rfl rfl nd LamX.takes0 finE_none ct.tab (fun F1 H1 g1 d1 Wx pn xe R tk hE hp => (sds_one (sd_set (i := 1) nd rfl (Or.inl rfl) (ed_tup (ad_cons ed_str (ad_cons (act F1 H1 g1 d1 Wx pn xe R _ _ tk hE) ad_nil))))))
      (.named rfl rfl g_BadTile (i := 2) rfl rfl (fun a oe cls d pn F0 H0 er zc fv at_ => (sds_one (sd_set (i := 1) nd rfl (Or.inl rfl) (ed_tup (ad_cons ed_str (ad_cons (ed_erF (fld := "thing") at_ zc fv ct.get_thing (pv 2)) ad_nil)))))) .nil))
      (sds_one (sd_ret (ed_var 1 (pv 1))))))
theorem ok_is_number {f : Addr} {fd : FuncData} (bt : Bt mg) (ct : Ct K mg) (hm : mg "is_number" = some (.ref f)) (F : Fun K "is_number" "is_number" (top 8) f fd) (O_is_integer : OkD P w K mg base T "is_integer" (top 7) 1 ["thing"] sp_is_integer) : OkD P w K mg base T "is_number" (top 8) 2 ["thing"] sp_is_number := by
  refine ⟨f, fd, hm, F, okD (g := g_is_number) F sc_is_number len_is_number (fun cdv A outer s H E W F R hr hE hp hx => ?_) law_is_number⟩
  have nd := sc_is_number.nd
  have hu65 := hu65_of hr
  exact (sds_cons (sd_if (wd_or (td_not (td_val (ed_callB c_isi (by rfl) bt.b_isinstance nbIsi (abd_cons (ed_var 0 (pv 0)).toB (abd_cons (ed_ty (by rfl) bt.b_tuple nbTuple).toB abd_nil))).toB)) (wd_or1 (td_cmp (o_ne hr.units) (ed_callB c_len (by rfl) bt.b_len nbLen (abd_cons (ed_var 0 (pv 0)).toB abd_nil)).toB ed_int.toB (nomark _)))).t (sds_one (sd_ret ed_bl)) sds_nil)
      (sds_one (sd_ret (ed_and (ed_o (B := ⟨⟨W, T⟩, F, H⟩) (k := 1) O_is_integer bp_is_integer (hr.mono (by decide)) hx hE (ad_cons (ed_ix (ed_var 0 (pv 0)).toB ed_int.toB) ad_nil)) (ed_and (ed_o (B := ⟨⟨W, T⟩, F, H⟩) (k := 1) O_is_integer bp_is_integer (hr.mono (by decide)) hx hE (ad_cons (ed_ix (ed_var 0 (pv 0)).toB ed_int.toB) ad_nil)) (ed_and (ed_o (B := ⟨⟨W, T⟩, F, H⟩) (k := 1) O_is_integer bp_is_integer (hr.mono (by decide)) hx hE (ad_cons (ed_ix (ed_var 0 (pv 0)).toB ed_int.toB) ad_nil)) (ed_one (ed_cmp o_ge (ed_ix (ed_var 0 (pv 0)).toB ed_int.toB).toB ed_int.toB (nomark _)))))))))
theorem ok_sign_of {f : Addr} {fd : FuncData} (bt : Bt mg) (ct : Ct K mg) (hm : mg "sign_of" = some (.ref f)) (F : Fun K "sign_of" "sign_of" (top 11) f fd) (O_pair_sign : OkD P w K mg base T "pair_sign" (top 10) 1 ["a", "b"] sp_pair_sign) : OkD P w K mg base T "sign_of" (top 11) 2 ["one"] sp_sign_of := by
  refine ⟨f, fd, hm, F, okD (g := g_sign_of) F sc_sign_of len_sign_of (fun cdv A outer s H E W F R hr hE hp hx => ?_) law_sign_of⟩
  have nd := sc_sign_of.nd
  have hu65 := hu65_of hr
  exact (sds_one (sd_ret (ed_o (B := ⟨⟨W, T⟩, F, H⟩) (k := 1) O_pair_sign bp_pair_sign (hr.mono (by decide)) hx hE (ad_cons (ed_ix (ed_var 0 (pv 0)).toB ed_int.toB) (ad_cons (ed_ix (ed_var 0 (pv 0)).toB ed_int.toB) ad_nil)))))
theorem ok_compared {f : Addr} {fd : FuncData} (bt : Bt mg) (ct : Ct K mg) (hm : mg "compared" = some (.ref f)) (F : Fun K "compared" "compared" (top 12) f fd) (O_pair_sign : OkD P w K mg base T "pair_sign" (top 10) 1 ["a", "b"] sp_pair_sign) : OkD P w K mg base T "compared" (top 12) 2 ["one", "other"] sp_compared := by
  refine ⟨f, fd, hm, F, okD (g := g_compared) F sc_compared len_compared (fun cdv A outer s H E W F R hr hE hp hx => ?_) law_compared⟩
  have nd := sc_compared.nd
  have hu65 := hu65_of hr
  exact (sds_one (sd_ret (ed_o (B := ⟨⟨W, T⟩, F, H⟩) (k := 1) O_pair_sign bp_pair_sign (hr.mono (by decide)) hx hE (ad_cons (ed_bin o_sub (ed_bin o_mul (ed_ix (ed_var 0 (pv 0)).toB ed_int.toB).toB (ed_ix (ed_var 1 (pv 1)).toB ed_int.toB).toB).toB (ed_bin o_mul (ed_ix (ed_var 1 (pv 1)).toB ed_int.toB).toB (ed_ix (ed_var 0 (pv 0)).toB ed_int.toB).toB).toB) (ad_cons (ed_bin o_sub (ed_bin o_mul (ed_ix (ed_var 0 (pv 0)).toB ed_int.toB).toB (ed_ix (ed_var 1 (pv 1)).toB ed_int.toB).toB).toB (ed_bin o_mul (ed_ix (ed_var 1 (pv 1)).toB ed_int.toB).toB (ed_ix (ed_var 0 (pv 0)).toB ed_int.toB).toB).toB) ad_nil)))))
theorem ok_added {f : Addr} {fd : FuncData} (bt : Bt mg) (ct : Ct K mg) (hm : mg "added" = some (.ref f)) (F : Fun K "added" "added" (top 14) f fd) (O_normal : OkD P w K mg base T "normal" (top 9) 1 ["a", "b", "d"] sp_normal) : OkD P w K mg base T "added" (top 14) 2 ["one", "other"] sp_added := by
  refine ⟨f, fd, hm, F, okD (g := g_added) F sc_added len_added (fun cdv A outer s H E W F R hr hE hp hx => ?_) law_added⟩
  have nd := sc_added.nd
  have hu65 := hu65_of hr
  exact (sds_cons (sd_set (i := 2) nd rfl (Or.inl rfl) (ed_bin o_mul (ed_ix (ed_var 0 (pv 0)).toB ed_int.toB).toB (ed_ix (ed_var 1 (pv 1)).toB ed_int.toB).toB))
      (sds_one (sd_ret (ed_o (B := ⟨⟨W, T⟩, F, H⟩) (k := 1) O_normal bp_normal (hr.mono (by decide)) hx hE (ad_cons (ed_bin o_add (ed_bin o_mul (ed_ix (ed_var 0 (pv 0)).toB ed_int.toB).toB (ed_ix (ed_var 1 (pv 1)).toB ed_int.toB).toB).toB (ed_bin o_mul (ed_ix (ed_var 1 (pv 1)).toB ed_int.toB).toB (ed_ix (ed_var 0 (pv 0)).toB ed_int.toB).toB).toB) (ad_cons (ed_bin o_add (ed_bin o_mul (ed_ix (ed_var 0 (pv 0)).toB ed_int.toB).toB (ed_ix (ed_var 1 (pv 1)).toB ed_int.toB).toB).toB (ed_bin o_mul (ed_ix (ed_var 1 (pv 1)).toB ed_int.toB).toB (ed_ix (ed_var 0 (pv 0)).toB ed_int.toB).toB).toB) (ad_cons (ed_var 2 (pv 2)) ad_nil)))))))
theorem ok_is_direction {f : Addr} {fd : FuncData} (bt : Bt mg) (ct : Ct K mg) (hm : mg "is_direction" = some (.ref f)) (F : Fun K "is_direction" "is_direction" (top 19) f fd) (O_is_integer : OkD P w K mg base T "is_integer" (top 7) 1 ["thing"] sp_is_integer) : OkD P w K mg base T "is_direction" (top 19) 2 ["thing"] sp_is_direction := by
  refine ⟨f, fd, hm, F, okD (g := g_is_direction) F sc_is_direction len_is_direction (fun cdv A outer s H E W F R hr hE hp hx => ?_) law_is_direction⟩
  have nd := sc_is_direction.nd
  have hu65 := hu65_of hr
  exact (sds_one (sd_ret (ed_and (ed_o (B := ⟨⟨W, T⟩, F, H⟩) (k := 1) O_is_integer bp_is_integer (hr.mono (by decide)) hx hE (ad_cons (ed_var 0 (pv 0)) ad_nil)) (ed_one (ed_chain o_le o_le ed_int.toB (ed_var 0 (pv 0)).toB ed_int.toB)))))
theorem ok_is_five {f : Addr} {fd : FuncData} (bt : Bt mg) (ct : Ct K mg) (hm : mg "is_five" = some (.ref f)) (F : Fun K "is_five" "is_five" (top 20) f fd) (O_is_integer : OkD P w K mg base T "is_integer" (top 7) 1 ["thing"] sp_is_integer) : OkD P w K mg base T "is_five" (top 20) 2 ["thing"] sp_is_five := by
  refine ⟨f, fd, hm, F, okD (g := g_is_five) F sc_is_five len_is_five (fun cdv A outer s H E W F R hr hE hp hx => ?_) law_is_five⟩
  have nd := sc_is_five.nd
  have hu65 := hu65_of hr
  exact (sds_one (sd_ret (ed_and (ed_callB c_isi (by rfl) bt.b_isinstance nbIsi (abd_cons (ed_var 0 (pv 0)).toB (abd_cons (ed_ty (by rfl) bt.b_tuple nbTuple).toB abd_nil))) (ed_and (ed_cmp (o_eq hr.units) (ed_callB c_len (by rfl) bt.b_len nbLen (abd_cons (ed_var 0 (pv 0)).toB abd_nil)).toB ed_int.toB (nomark _)) (ed_one (ed_callB (c_all rfl) (by rfl) bt.b_all nbAll (abd_cons (fd_lc (own := [("part", 1)]) rfl nd (pid_data (ed_var 0 (pv 0))) (blkOk_by (own := [("part", 1)]) (N := ["thing", "part"]) (sc := defScope (top 20)) (by decide +kernel)) (ct_name (by decide)) (fun _ _ _ _ _ => pg_name (i := 1) nd rfl (Or.inl rfl)) (fun _ _ _ _ _ => tds_nil) (fun _ _ _ _ _ => (ed_o (B := ⟨⟨W, T⟩, F, H⟩) (k := 1) O_is_integer bp_is_integer (hr.mono (by decide)) passL FinE.none (ad_cons (ed_var 1 (pv 1)) ad_nil)))).toE.toB abd_nil)))))))
theorem ok__law_pick {f : Addr} {fd : FuncData} (bt : Bt mg) (ct : Ct K mg) (hm : mg "_law_pick" = some (.ref f)) (F : Fun K "_law_pick" "_law_pick" (top 49) f fd) (O__law_draw : OkD P w K mg base T "_law_draw" (top 48) 1 ["_law_deck_here", "_law_many"] spDraw) : OkD P w K mg base T "_law_pick" (top 49) 2 ["_law_deck_here", "_law_some"] sp__law_pick := by
  refine ⟨f, fd, hm, F, okD (g := g__law_pick) F sc__law_pick len__law_pick (fun cdv A outer s H E W F R hr hE hp hx => ?_) law__law_pick⟩
  have nd := sc__law_pick.nd
  have hu65 := hu65_of hr
  exact (sds_one (sd_ret (ed_ix (ed_var 1 (pv 1)).toB (ed_o (B := ⟨⟨W, T⟩, F, H⟩) (k := 1) O__law_draw bp__law_draw (hr.mono (by decide)) hx hE (ad_cons (ed_var 0 (pv 0)) (ad_cons (ed_callB c_len (by rfl) bt.b_len nbLen (abd_cons (ed_var 1 (pv 1)).toB abd_nil)) ad_nil))).toB)))
theorem ok__law_corners {f : Addr} {fd : FuncData} (bt : Bt mg) (ct : Ct K mg) (hm : mg "_law_corners" = some (.ref f)) (F : Fun K "_law_corners" "_law_corners" (top 53) f fd) (O__law_up : OkV P w K mg base T "_law_up" (top 52) 1 ["_law_k", "_law_j", "_law_much"] [.int 1] sp__law_up) : OkD P w K mg base T "_law_corners" (top 53) 2 ["_law_tile"] sp__law_corners := by
  refine ⟨f, fd, hm, F, okD (g := g__law_corners) F sc__law_corners len__law_corners (fun cdv A outer s H E W F R hr hE hp hx => ?_) law__law_corners⟩
  have nd := sc__law_corners.nd
  have hu65 := hu65_of hr
  exact (sds_cons (sd_setT (is := [1, 2, 3]) rfl (na_cons (pg_name (i := 1) nd rfl (Or.inl rfl)) (na_cons (pg_name (i := 2) nd rfl (Or.inl rfl)) (na_cons (pg_name (i := 3) nd rfl (Or.inl rfl)) na_nil))) (ed_var 0 (pv 0)))
      (sds_one (sd_ret (fd_lst (ad_cons (ed_var 1 (pv 1)) (ad_cons (ed_v (B := ⟨⟨W, T⟩, F, H⟩) (k := 1) (n := 2) (j := 0) O__law_up rfl bv__law_up_0 (hr.mono (by decide)) hx hE (ad_cons (ed_var 1 (pv 1)) (ad_cons (ed_var 2 (pv 2)) ad_nil))) (ad_cons (ed_v (B := ⟨⟨W, T⟩, F, H⟩) (k := 1) (n := 2) (j := 0) O__law_up rfl bv__law_up_0 (hr.mono (by decide)) hx hE (ad_cons (ed_var 1 (pv 1)) (ad_cons (ed_var 3 (pv 3)) ad_nil))) (ad_cons (ed_v (B := ⟨⟨W, T⟩, F, H⟩) (k := 1) (n := 2) (j := 0) O__law_up rfl bv__law_up_0 (hr.mono (by decide)) hx hE (ad_cons (ed_v (B := ⟨⟨W, T⟩, F, H⟩) (k := 1) (n := 2) (j := 0) O__law_up rfl bv__law_up_0 (hr.mono (by decide)) hx hE (ad_cons (ed_var 1 (pv 1)) (ad_cons (ed_var 2 (pv 2)) ad_nil))) (ad_cons (ed_var 3 (pv 3)) ad_nil))) ad_nil))))).toE)))
theorem ok__law_marked {f : Addr} {fd : FuncData} (bt : Bt mg) (ct : Ct K mg) (hm : mg "_law_marked" = some (.ref f)) (F : Fun K "_law_marked" "_law_marked" (top 54) f fd) (O__law_up : OkV P w K mg base T "_law_up" (top 52) 1 ["_law_k", "_law_j", "_law_much"] [.int 1] sp__law_up) : OkD P w K mg base T "_law_marked" (top 54) 2 ["_law_tile"] sp__law_marked := by
  refine ⟨f, fd, hm, F, okD (g := g__law_marked) F sc__law_marked len__law_marked (fun cdv A outer s H E W F R hr hE hp hx => ?_) law__law_marked⟩
  have nd := sc__law_marked.nd
  have hu65 := hu65_of hr
  exact (sds_cons (sd_setT (is := [1, 2, 3]) rfl (na_cons (pg_name (i := 1) nd rfl (Or.inl rfl)) (na_cons (pg_name (i := 2) nd rfl (Or.inl rfl)) (na_cons (pg_name (i := 3) nd rfl (Or.inl rfl)) na_nil))) (ed_var 0 (pv 0)))
      (sds_cons (sd_set (i := 4) nd rfl (Or.inl rfl) (ed_if (td_cmp (o_eq hr.units) (ed_cmp (o_in hu65) (ed_bin o_sub (ed_var 3 (pv 3)).toB (ed_var 2 (pv 2)).toB).toB (ed_tup (ad_cons ed_int (ad_cons ed_int ad_nil))).toB (by rfl)).toB (ed_cmp (o_eq hr.units) (ed_callB (c_sum rfl) (by rfl) bt.b_sum nbSum (abd_cons (ed_var 1 (pv 1)).toB abd_nil)).toB ed_int.toB (nomark _)).toB (nomark _)) ed_str ed_str))
      (sds_cons (sd_setL (i := 5) nd rfl (Or.inl rfl) (fd_lst ad_nil))
      (sds_cons (sd_for hp rfl (pid_data (ed_tup (ad_cons (ed_tup (ad_cons (ed_var 1 (pv 1)) (ad_cons (ed_var 2 (pv 2)) (ad_cons (ed_var 3 (pv 3)) ad_nil)))) (ad_cons (ed_tup (ad_cons (ed_var 1 (pv 1)) (ad_cons (ed_var 3 (pv 3)) (ad_cons (ed_var 2 (pv 2)) ad_nil)))) (ad_cons (ed_tup (ad_cons (ed_v (B := ⟨⟨W, T⟩, F, H⟩) (k := 1) (n := 2) (j := 0) O__law_up rfl bv__law_up_0 (hr.mono (by decide)) hx hE (ad_cons (ed_var 1 (pv 1)) (ad_cons (ed_var 3 (pv 3)) ad_nil))) (ad_cons (ed_var 2 (pv 2)) (ad_cons (ed_var 3 (pv 3)) ad_nil)))) (ad_cons (ed_tup (ad_cons (ed_v (B := ⟨⟨W, T⟩, F, H⟩) (k := 1) (n := 2) (j := 0) O__law_up rfl bv__law_up_0 (hr.mono (by decide)) hx hE (ad_cons (ed_var 1 (pv 1)) (ad_cons (ed_var 2 (pv 2)) ad_nil))) (ad_cons (ed_var 3 (pv 3)) (ad_cons (ed_var 2 (pv 2)) ad_nil)))) ad_nil)))))) (gd_tup (is := [6, 7, 8]) rfl (na_cons (pg_name (i := 6) nd rfl (Or.inl rfl)) (na_cons (pg_name (i := 7) nd rfl (Or.inl rfl)) (na_cons (pg_name (i := 8) nd rfl (Or.inl rfl)) na_nil)))) (sds_cons (sd_set (i := 9) nd rfl (Or.inl rfl) (ed_cmp (o_in hu65) (ed_bin o_mod (ed_callTy (c_intB ct.dig) (by rfl) bt.b_int nbInt (abd_cons (ed_bin o_add (ed_bin o_sub (ed_var 8 (pv 8)).toB (ed_var 7 (pv 7)).toB).toB ed_int.toB).toB abd_nil)).toB ed_int.toB).toB (ed_tup (ad_cons ed_int (ad_cons ed_int ad_nil))).toB (by rfl)))
      (sds_one (sd_appE (pv 5) (ed_tup (ad_cons (ed_tup (ad_cons (ed_var 6 (pv 6)) (ad_cons (ed_var 7 (pv 7)) ad_nil))) (ad_cons (ed_if (td_cmp (o_eq hr.units) (ed_callB (c_sum rfl) (by rfl) bt.b_sum nbSum (abd_cons (ed_var 6 (pv 6)).toB abd_nil)).toB ed_int.toB (nomark _)) (ed_var 4 (pv 4)) ed_str) (ad_cons (ed_cmp (o_eq hr.units) (ed_var 9 (pv 9)).toB (ed_cmp (o_eq hr.units) (ed_ix (ed_var 6 (pv 6)).toB (ed_var 8 (pv 8)).toB).toB (ed_ix (ed_var 1 (pv 1)).toB (ed_var 8 (pv 8)).toB).toB (nomark _)).toB (nomark _)) ad_nil))))))))
      (sds_one (sd_fz 5 (sd_ret (ed_var 5 (pv 5)))))))))
theorem ok__law_choices {f : Addr} {fd : FuncData} (bt : Bt mg) (ct : Ct K mg) (hm : mg "_law_choices" = some (.ref f)) (F : Fun K "_law_choices" "_law_choices" (top 56) f fd) (O__law_up : OkV P w K mg base T "_law_up" (top 52) 1 ["_law_k", "_law_j", "_law_much"] [.int 1] sp__law_up) : OkD P w K mg base T "_law_choices" (top 56) 2 ["_law_edge", "_law_on_left"] sp__law_choices := by
  refine ⟨f, fd, hm, F, okD (g := g__law_choices) F sc__law_choices len__law_choices (fun cdv A outer s H E W F R hr hE hp hx => ?_) law__law_choices⟩
  have nd := sc__law_choices.nd
  have hu65 := hu65_of hr
  exact (sds_cons (sd_setL (i := 2) nd rfl (Or.inl rfl) (fd_lst ad_nil))
      (sds_cons (sd_for hp rfl (pid_rng2 (by rfl) bt.b_range (ad_cons ed_int (ad_cons ed_int ad_nil))) (gd_name (pg_name (i := 3) nd rfl (Or.inl rfl))) (sds_cons (sd_set (i := 4) nd rfl (Or.inl rfl) (ed_bin o_mod (ed_callTy (c_intB ct.dig) (by rfl) bt.b_int nbInt (abd_cons (ed_bin o_add (ed_ix (ed_var 0 (pv 0)).toB ed_int.toB).toB (ed_var 3 (pv 3)).toB).toB abd_nil)).toB ed_int.toB))
      (sds_cons (sd_set (i := 5) nd rfl (Or.inl rfl) (ed_if (td_cmp (o_eq hr.units) (ed_cmp o_lt (ed_var 3 (pv 3)).toB ed_int.toB (nomark _)).toB (ed_var 1 (pv 1)).toB (nomark _)) (ed_ix (ed_var 0 (pv 0)).toB ed_int.toB) (ed_v (B := ⟨⟨W, T⟩, F, H⟩) (k := 1) (n := 3) (j := 1) O__law_up rfl bv__law_up_1 (hr.mono (by decide)) hx hE (ad_cons (ed_ix (ed_var 0 (pv 0)).toB ed_int.toB) (ad_cons (ed_var 4 (pv 4)) (ad_cons (ed_un o_neg ed_int.toB) ad_nil))))))
      (sds_one (sd_if (td_cmp (o_in hu65) (ed_callB (c_sum rfl) (by rfl) bt.b_sum nbSum (abd_cons (ed_var 5 (pv 5)).toB abd_nil)).toB (ed_tup (ad_cons ed_int (ad_cons ed_int ad_nil))).toB (by rfl)) (sds_one (sd_appE (pv 2) (ed_tup (ad_cons (ed_var 5 (pv 5)) (ad_cons (ed_callB (c_min2 rfl) (by rfl) bt.b_min nbMin (abd_cons (ed_ix (ed_var 0 (pv 0)).toB ed_int.toB).toB (abd_cons (ed_var 4 (pv 4)).toB abd_nil))) (ad_cons (ed_callB (c_max2 rfl) (by rfl) bt.b_max nbMax (abd_cons (ed_ix (ed_var 0 (pv 0)).toB ed_int.toB).toB (abd_cons (ed_var 4 (pv 4)).toB abd_nil))) ad_nil)))))) sds_nil)))))
      (sds_one (sd_fz 2 (sd_ret (ed_var 2 (pv 2)))))))
theorem ok__law_do_overlap {f : Addr} {fd : FuncData} (bt : Bt mg) (ct : Ct K mg) (hm : mg "_law_do_overlap" = some (.ref f)) (F : Fun K "_law_do_overlap" "_law_do_overlap" (top 57) f fd) (O__law_sign : OkD P w K mg base T "_law_sign" (top 50) 1 ["_law_a", "_law_b"] sp__law_sign) : OkD P w K mg base T "_law_do_overlap" (top 57) 2 ["_law_one", "_law_other"] sp__law_do_overlap := by
  refine ⟨f, fd, hm, F, okD (g := g__law_do_overlap) F sc__law_do_overlap len__law_do_overlap (fun cdv A outer s H E W F R hr hE hp hx => ?_) law__law_do_overlap⟩
  have nd := sc__law_do_overlap.nd
  have hu65 := hu65_of hr
  exact (sds_cons (sd_set (i := 2) nd rfl (Or.inl rfl) (ed_bin o_add (ed_sl (ed_var 0 (pv 0)).toB (od_some ed_int) od_none).toB (ed_sl (ed_var 1 (pv 1)).toB (od_some ed_int) od_none).toB))
      (sds_cons (sd_setLcO (i := 3) (own := [("_law_x", 9), ("_law_y", 10)]) rfl nd rfl rfl (sw_true rfl rfl rfl (by decide +kernel)) (pid_zip (by rfl) bt.b_zip (ad_cons (ed_ix (ed_var 0 (pv 0)).toB ed_int.toB) (ad_cons (ed_ix (ed_var 1 (pv 1)).toB ed_int.toB) ad_nil))) (blkOk_by (own := [("_law_x", 9), ("_law_y", 10)]) (N := ["_law_one", "_law_other", "_law_dirs", "_law_away", "_law_at", "_law_j", "_law_d", "_law_a", "_law_b", "_law_x", "_law_y"]) (sc := defScope (top 57)) (by decide +kernel)) (ct_tup (is := [9, 10]) (by decide)) (fun _ _ _ _ _ => pg_names (is := [9, 10]) rfl (na_cons (pg_name (i := 9) nd rfl (Or.inl rfl)) (na_cons (pg_name (i := 10) nd rfl (Or.inl rfl)) na_nil))) (fun _ _ _ _ _ => tds_nil) (fun _ _ _ _ _ => (ed_bin o_mul ed_int.toB (ed_bin o_sub (ed_var 10 (pv 10)).toB (ed_var 9 (pv 9)).toB).toB)))
      (sds_cons (sd_for hp rfl (pid_enum (by rfl) bt.b_enumerate (ad_cons (ed_var 2 (pv 2)) ad_nil)) (gd_tup (is := [4, 5]) rfl (na_cons (pg_name (i := 4) nd rfl (Or.inl rfl)) (na_cons (pg_name (i := 5) nd rfl (Or.inl rfl)) na_nil))) (sds_one (sd_setI (pv 3) (ed_bin o_add (ed_ix (bd_var 3 (pv 3)) (ed_var 5 (pv 5)).toB).toB (ed_if (td_cmp o_gt (ed_var 4 (pv 4)).toB ed_int.toB (nomark _)) ed_int (ed_un o_neg ed_int.toB)).toB) (ed_var 5 (pv 5)).toB)))
      (sds_cons (sd_for hp rfl (pid_data (ed_var 2 (pv 2))) (gd_name (pg_name (i := 6) nd rfl (Or.inl rfl))) (sds_cons (sd_par2 (i := 7) (j := 8) rfl nd rfl rfl (by decide) rfl rfl (ad_cons (ed_bin o_sub (ed_ix (bd_var 3 (pv 3)) (ed_bin o_sub (ed_var 6 (pv 6)).toB ed_int.toB).toB).toB (ed_ix (bd_var 3 (pv 3)) (ed_bin o_sub (ed_var 6 (pv 6)).toB ed_int.toB).toB).toB) (ad_cons (ed_bin o_sub (ed_ix (bd_var 3 (pv 3)) (ed_bin o_sub (ed_var 6 (pv 6)).toB ed_int.toB).toB).toB (ed_ix (bd_var 3 (pv 3)) (ed_bin o_sub (ed_var 6 (pv 6)).toB ed_int.toB).toB).toB) ad_nil)) (by rfl))
      (sds_cons (sd_if (td_cmp o_lt (ed_o (B := ⟨⟨W, T⟩, F, H⟩) (k := 1) O__law_sign bp__law_sign (hr.mono (by decide)) hx hE (ad_cons (ed_var 7 (pv 7)) (ad_cons (ed_var 8 (pv 8)) ad_nil))).toB ed_int.toB (nomark _)) (sds_one (sd_par2 (i := 7) (j := 8) rfl nd rfl rfl (by decide) rfl rfl (ad_cons (ed_un o_neg (ed_var 7 (pv 7)).toB) (ad_cons (ed_un o_neg (ed_var 8 (pv 8)).toB) ad_nil)) (by rfl))) sds_nil)
      (sds_cons (sd_for hp rfl (pid_data (ed_var 2 (pv 2))) (gd_name (pg_name (i := 5) nd rfl (Or.inl rfl))) (sds_one (sd_par2 (i := 7) (j := 8) rfl nd rfl rfl (by decide) rfl rfl (ad_cons (ed_bin o_sub (ed_var 7 (pv 7)).toB (ed_callTy (c_intB ct.dig) (by rfl) bt.b_int nbInt (abd_cons (ed_cmp (o_in hu65) (ed_callB c_abs (by rfl) bt.b_abs nbAbs (abd_cons (ed_bin o_sub (ed_var 5 (pv 5)).toB (ed_var 6 (pv 6)).toB).toB abd_nil)).toB (ed_tup (ad_cons ed_int (ad_cons ed_int ad_nil))).toB (by rfl)).toB abd_nil)).toB) (ad_cons (ed_bin o_sub (ed_var 8 (pv 8)).toB (ed_callTy (c_intB ct.dig) (by rfl) bt.b_int nbInt (abd_cons (ed_cmp (o_in hu65) (ed_callB c_abs (by rfl) bt.b_abs nbAbs (abd_cons (ed_bin o_sub (ed_var 5 (pv 5)).toB (ed_var 6 (pv 6)).toB).toB abd_nil)).toB (ed_tup (ad_cons ed_int (ad_cons ed_int ad_nil))).toB (by rfl)).toB abd_nil)).toB) ad_nil)) (by rfl))))
      (sds_one (sd_if (td_cmp o_ge (ed_o (B := ⟨⟨W, T⟩, F, H⟩) (k := 1) O__law_sign bp__law_sign (hr.mono (by decide)) hx hE (ad_cons (ed_var 7 (pv 7)) (ad_cons (ed_var 8 (pv 8)) ad_nil))).toB ed_int.toB (nomark _)) (sds_one (sd_ret ed_bl)) sds_nil))))))
      (sds_one (sd_ret ed_bl))))))
theorem ok__law_is_tile {f : Addr} {fd : FuncData} (bt : Bt mg) (ct : Ct K mg) (hm : mg "_law_is_tile" = some (.ref f)) (F : Fun K "_law_is_tile" "_law_is_tile" (top 58) f fd) (O__law_is_integer : OkD P w K mg base T "_law_is_integer" (top 51) 1 ["_law_thing"] sp__law_is_integer) : OkD P w K mg base T "_law_is_tile" (top 58) 2 ["_law_thing"] sp__law_is_tile := by
  refine ⟨f, fd, hm, F, okD (g := g__law_is_tile) F sc__law_is_tile len__law_is_tile (fun cdv A outer s H E W F R hr hE hp hx => ?_) law__law_is_tile⟩
  have nd := sc__law_is_tile.nd
  have hu65 := hu65_of hr
  exact (sds_cons (sd_if (wd_or (td_not (td_val (ed_callB c_isi (by rfl) bt.b_isinstance nbIsi (abd_cons (ed_var 0 (pv 0)).toB (abd_cons (ed_ty (by rfl) bt.b_tuple nbTuple).toB abd_nil))).toB)) (wd_or (td_cmp (o_ne hr.units) (ed_callB c_len (by rfl) bt.b_len nbLen (abd_cons (ed_var 0 (pv 0)).toB abd_nil)).toB ed_int.toB (nomark _)) (wd_or (td_not (td_val (ed_callB c_isi (by rfl) bt.b_isinstance nbIsi (abd_cons (ed_ix (ed_var 0 (pv 0)).toB ed_int.toB).toB (abd_cons (ed_ty (by rfl) bt.b_tuple nbTuple).toB abd_nil))).toB)) (wd_or1 (td_cmp (o_ne hr.units) (ed_callB c_len (by rfl) bt.b_len nbLen (abd_cons (ed_ix (ed_var 0 (pv 0)).toB ed_int.toB).toB abd_nil)).toB ed_int.toB (nomark _)))))).t (sds_one (sd_ret ed_bl)) sds_nil)
      (sds_cons (sd_if (td_cmp (o_neE hr.units) (fd_lc (own := [("_law_it", 1)]) rfl nd (pid_data (ed_bin o_add (ed_ix (ed_var 0 (pv 0)).toB ed_int.toB).toB (ed_sl (ed_var 0 (pv 0)).toB (od_some ed_int) od_none).toB)) (blkOk_by (own := [("_law_it", 1)]) (N := ["_law_thing", "_law_it"]) (sc := defScope (top 58)) (by decide +kernel)) (ct_name (by decide)) (fun _ _ _ _ _ => pg_name (i := 1) nd rfl (Or.inl rfl)) (fun _ _ _ _ _ => (tds_one (td_not (td_val (ed_o (B := ⟨⟨W, T⟩, F, H⟩) (k := 1) O__law_is_integer bp__law_is_integer (hr.mono (by decide)) passL FinE.none (ad_cons (ed_var 1 (pv 1)) ad_nil)).toB)))) (fun _ _ _ _ _ => (ed_var 1 (pv 1)))).toE.toB (fd_lst ad_nil).toE.toB (nomark _)) (sds_one (sd_ret ed_bl)) sds_nil)
      (sds_one (sd_ret (ed_and (ed_cmp (o_in hu65) (ed_callB (c_sum rfl) (by rfl) bt.b_sum nbSum (abd_cons (ed_ix (ed_var 0 (pv 0)).toB ed_int.toB).toB abd_nil)).toB (ed_tup (ad_cons ed_int (ad_cons ed_int ad_nil))).toB (by rfl)) (ed_one (ed_chain3 o_le o_lt o_le ed_int.toB (ed_ix (ed_var 0 (pv 0)).toB ed_int.toB).toB (ed_ix (ed_var 0 (pv 0)).toB ed_int.toB).toB ed_int.toB)))))))
theorem ok__law_great {f : Addr} {fd : FuncData} (bt : Bt mg) (ct : Ct K mg) (hm : mg "_law_great" = some (.ref f)) (F : Fun K "_law_great" "_law_great" (top 61) f fd) (O__law_draw : OkD P w K mg base T "_law_draw" (top 48) 1 ["_law_deck_here", "_law_many"] spDraw) : OkD P w K mg base T "_law_great" (top 61) 2 ["_law_deck_here"] sp__law_great := by
  refine ⟨f, fd, hm, F, okD (g := g__law_great) F sc__law_great len__law_great (fun cdv A outer s H E W F R hr hE hp hx => ?_) law__law_great⟩
  have nd := sc__law_great.nd
  have hu65 := hu65_of hr
  exact (sds_cons (sd_set (i := 1) nd rfl (Or.inl rfl) ed_int)
      (sds_cons (sd_for hp rfl (pid_rng1 (by rfl) bt.b_range (ad_cons ed_int ad_nil)) (gd_name (pg_name (i := 2) nd rfl (Or.inl rfl))) (sds_one (sd_set (i := 1) nd rfl (Or.inl rfl) (ed_bin o_add (ed_bin o_mul (ed_var 1 (pv 1)).toB (ed_bin o_pow ed_int.toB ed_int.toB).toB).toB (ed_o (B := ⟨⟨W, T⟩, F, H⟩) (k := 1) O__law_draw bp__law_draw (hr.mono (by decide)) hx hE (ad_cons (ed_var 0 (pv 0)) (ad_cons (ed_bin o_pow ed_int.toB ed_int.toB) ad_nil))).toB))))
      (sds_one (sd_ret (ed_if (td_cmp (o_eq hr.units) (ed_o (B := ⟨⟨W, T⟩, F, H⟩) (k := 1) O__law_draw bp__law_draw (hr.mono (by decide)) hx hE (ad_cons (ed_var 0 (pv 0)) (ad_cons ed_int ad_nil))).toB ed_int.toB (nomark _)) (ed_var 1 (pv 1)) (ed_bin o_sub (ed_un o_neg ed_int.toB).toB (ed_var 1 (pv 1)).toB))))))
theorem ok_taken {f : Addr} {fd : FuncData} (bt : Bt mg) (ct : Ct K mg) (hm : mg "taken" = some (.ref f)) (F : Fun K "taken" "taken" (top 15) f fd) (O_added : OkD P w K mg base T "added" (top 14) 2 ["one", "other"] sp_added) (O_negative : OkD P w K mg base T "negative" (top 13) 1 ["one"] sp_negative) : OkD P w K mg base T "taken" (top 15) 3 ["one", "other"] sp_taken := by
  refine ⟨f, fd, hm, F, okD (g := g_taken) F sc_taken len_taken (fun cdv A outer s H E W F R hr hE hp hx => ?_) law_taken⟩
  have nd := sc_taken.nd
  have hu65 := hu65_of hr
  exact (sds_one (sd_ret (ed_o (B := ⟨⟨W, T⟩, F, H⟩) (k := 2) O_added bp_added (hr.mono (by decide)) hx hE (ad_cons (ed_var 0 (pv 0)) (ad_cons (ed_o (B := ⟨⟨W, T⟩, F, H⟩) (k := 1) O_negative bp_negative (hr.mono (by decide)) hx hE (ad_cons (ed_var 1 (pv 1)) ad_nil)) ad_nil)))))
theorem ok_greatest {f : Addr} {fd : FuncData} (bt : Bt mg) (ct : Ct K mg) (hm : mg "greatest" = some (.ref f)) (F : Fun K "greatest" "greatest" (top 16) f fd) (O_compared : OkD P w K mg base T "compared" (top 12) 2 ["one", "other"] sp_compared) : OkD P w K mg base T "greatest" (top 16) 3 ["numbers"] sp_greatest := by
  refine ⟨f, fd, hm, F, okD (g := g_greatest) F sc_greatest len_greatest (fun cdv A outer s H E W F R hr hE hp hx => ?_) law_greatest⟩
  have nd := sc_greatest.nd
  have hu65 := hu65_of hr
  exact (sds_cons (sd_set (i := 1) nd rfl (Or.inl rfl) ed_non)
      (sds_cons (sd_for hp rfl (pid_data (ed_var 0 (pv 0))) (gd_name (pg_name (i := 2) nd rfl (Or.inl rfl))) (sds_one (sd_if (wd_and (td_cmp o_isNot (ed_var 2 (pv 2)).toB ed_non.toB (nomark _)) (wd_and1 (wd_or (td_cmp o_is (ed_var 1 (pv 1)).toB ed_non.toB (nomark _)) (wd_or1 (td_cmp o_gt (ed_o (B := ⟨⟨W, T⟩, F, H⟩) (k := 2) O_compared bp_compared (hr.mono (by decide)) hx hE (ad_cons (ed_var 2 (pv 2)) (ad_cons (ed_var 1 (pv 1)) ad_nil))).toB ed_int.toB (nomark _)))).t)).t (sds_one (sd_set (i := 1) nd rfl (Or.inl rfl) (ed_var 2 (pv 2)))) sds_nil)))
      (sds_one (sd_ret (ed_var 1 (pv 1))))))
theorem ok_least {f : Addr} {fd : FuncData} (bt : Bt mg) (ct : Ct K mg) (hm : mg "least" = some (.ref f)) (F : Fun K "least" "least" (top 17) f fd) (O_compared : OkD P w K mg base T "compared" (top 12) 2 ["one", "other"] sp_compared) : OkD P w K mg base T "least" (top 17) 3 ["numbers"] sp_least := by
  refine ⟨f, fd, hm, F, okD (g := g_least) F sc_least len_least (fun cdv A outer s H E W F R hr hE hp hx => ?_) law_least⟩
  have nd := sc_least.nd
  have hu65 := hu65_of hr
  exact (sds_cons (sd_set (i := 1) nd rfl (Or.inl rfl) ed_non)
      (sds_cons (sd_for hp rfl (pid_data (ed_var 0 (pv 0))) (gd_name (pg_name (i := 2) nd rfl (Or.inl rfl))) (sds_one (sd_if (wd_and (td_cmp o_isNot (ed_var 2 (pv 2)).toB ed_non.toB (nomark _)) (wd_and1 (wd_or (td_cmp o_is (ed_var 1 (pv 1)).toB ed_non.toB (nomark _)) (wd_or1 (td_cmp o_lt (ed_o (B := ⟨⟨W, T⟩, F, H⟩) (k := 2) O_compared bp_compared (hr.mono (by decide)) hx hE (ad_cons (ed_var 2 (pv 2)) (ad_cons (ed_var 1 (pv 1)) ad_nil))).toB ed_int.toB (nomark _)))).t)).t (sds_one (sd_set (i := 1) nd rfl (Or.inl rfl) (ed_var 2 (pv 2)))) sds_nil)))
      (sds_one (sd_ret (ed_var 1 (pv 1))))))
theorem ok_is_corner_five {f : Addr} {fd : FuncData} (bt : Bt mg) (ct : Ct K mg) (hm : mg "is_corner_five" = some (.ref f)) (F : Fun K "is_corner_five" "is_corner_five" (top 21) f fd) (O_is_five : OkD P w K mg base T "is_five" (top 20) 2 ["thing"] sp_is_five) : OkD P w K mg base T "is_corner_five" (top 21) 3 ["thing"] sp_is_corner_five := by
  refine ⟨f, fd, hm, F, okD (g := g_is_corner_five) F sc_is_corner_five len_is_corner_five (fun cdv A outer s H E W F R hr hE hp hx => ?_) law_is_corner_five⟩
  have nd := sc_is_corner_five.nd
  have hu65 := hu65_of hr
  exact (sds_one (sd_ret (ed_and (ed_o (B := ⟨⟨W, T⟩, F, H⟩) (k := 2) O_is_five bp_is_five (hr.mono (by decide)) hx hE (ad_cons (ed_var 0 (pv 0)) ad_nil)) (ed_one (ed_chain o_le o_le ed_int.toB (ed_callB (c_sum rfl) (by rfl) bt.b_sum nbSum (abd_cons (ed_var 0 (pv 0)).toB abd_nil)).toB ed_int.toB)))))
theorem ok_need_numbers {f : Addr} {fd : FuncData} (bt : Bt mg) (ct : Ct K mg) (hm : mg "need_numbers" = some (.ref f)) (F : Fun K "need_numbers" "need_numbers" (top 25) f fd) (O_is_number : OkD P w K mg base T "is_number" (top 8) 2 ["thing"] sp_is_number) : OkD P w K mg base T "need_numbers" (top 25) 3 ["things"] sp_need_numbers := by
  obtain ⟨C_BadNumber, fI_BadNumber, T_BadNumber, N_BadNumber⟩ := ct.er_BadNumber
  refine ⟨f, fd, hm, F, okD (g := g_need_numbers) F sc_need_numbers len_need_numbers (fun cdv A outer s H E W F R hr hE hp hx => ?_) law_need_numbers⟩
  have nd := sc_need_numbers.nd
  have hu65 := hu65_of hr
  exact (sds_one (sd_for hp rfl (pid_data (ed_var 0 (pv 0))) (gd_name (pg_name (i := 1) nd rfl (Or.inl rfl))) (sds_one (sd_if (td_not (td_val (ed_o (B := ⟨⟨W, T⟩, F, H⟩) (k := 2) O_is_number bp_is_number (hr.mono (by decide)) hx hE (ad_cons (ed_var 1 (pv 1)) ad_nil)).toB)) (sds_one (sd_raise rfl T_BadNumber N_BadNumber hr (takes_of rfl rfl rfl rfl) hE (ed_var 1 (pv 1)))) sds_nil))))
theorem ok_point_of {f : Addr} {fd : FuncData} (bt : Bt mg) (ct : Ct K mg) (hm : mg "point_of" = some (.ref f)) (F : Fun K "point_of" "point_of" (top 45) f fd) (O_is_five : OkD P w K mg base T "is_five" (top 20) 2 ["thing"] sp_is_five) (O_normal : OkD P w K mg base T "normal" (top 9) 1 ["a", "b", "d"] sp_normal) : OkD P w K mg base T "point_of" (top 45) 3 ["row"] sp_point_of := by
  obtain ⟨C_BadRow, fI_BadRow, T_BadRow, N_BadRow⟩ := ct.er_BadRow
  refine ⟨f, fd, hm, F, okD (g := g_point_of) F sc_point_of len_point_of (fun cdv A outer s H E W F R hr hE hp hx => ?_) law_point_of⟩
  have nd := sc_point_of.nd
  have hu65 := hu65_of hr
  exact (sds_cons (sd_if (td_not (td_val (ed_o (B := ⟨⟨W, T⟩, F, H⟩) (k := 2) O_is_five bp_is_five (hr.mono (by decide)) hx hE (ad_cons (ed_var 0 (pv 0)) ad_nil)).toB)) (sds_one (sd_raise rfl T_BadRow N_BadRow hr (takes_of rfl rfl rfl rfl) hE (ed_var 0 (pv 0)))) sds_nil)
      (sds_cons (sd_setL (i := 1) nd rfl (Or.inl rfl) (fd_lst ad_nil))
      (sds_cons (sd_for hp rfl (pid_rng1 (by rfl) bt.b_range (ad_cons ed_int ad_nil)) (gd_name (pg_name (i := 2) nd rfl (Or.inl rfl))) (sds_cons (sd_set (i := 3) nd rfl (Or.inl rfl) (ed_bin o_add (ed_ix (ed_var 0 (pv 0)).toB (ed_bin o_mod (ed_bin o_sub (ed_var 2 (pv 2)).toB ed_int.toB).toB ed_int.toB).toB).toB (ed_ix (ed_var 0 (pv 0)).toB (ed_bin o_mod (ed_bin o_add (ed_var 2 (pv 2)).toB ed_int.toB).toB ed_int.toB).toB).toB))
      (sds_cons (sd_set (i := 4) nd rfl (Or.inl rfl) (ed_bin o_add (ed_ix (ed_var 0 (pv 0)).toB (ed_bin o_mod (ed_bin o_sub (ed_var 2 (pv 2)).toB ed_int.toB).toB ed_int.toB).toB).toB (ed_ix (ed_var 0 (pv 0)).toB (ed_bin o_mod (ed_bin o_add (ed_var 2 (pv 2)).toB ed_int.toB).toB ed_int.toB).toB).toB))
      (sds_one (sd_appE (pv 1) (ed_o (B := ⟨⟨W, T⟩, F, H⟩) (k := 1) O_normal bp_normal (hr.mono (by decide)) hx hE (ad_cons (ed_bin o_sub (ed_bin o_mul ed_int.toB (ed_ix (ed_var 0 (pv 0)).toB (ed_var 2 (pv 2)).toB).toB).toB (ed_var 3 (pv 3)).toB) (ad_cons (ed_bin o_sub (ed_var 3 (pv 3)).toB (ed_var 4 (pv 4)).toB) (ad_cons ed_int ad_nil)))))))))
      (sds_one (sd_ret (ed_callTy c_tuple (by rfl) bt.b_tuple nbTuple (abd_cons (bd_var 1 (pv 1)) abd_nil)))))))
theorem ok__law_meeting {f : Addr} {fd : FuncData} (bt : Bt mg) (ct : Ct K mg) (hm : mg "_law_meeting" = some (.ref f)) (F : Fun K "_law_meeting" "_law_meeting" (top 55) f fd) (O__law_marked : OkD P w K mg base T "_law_marked" (top 54) 2 ["_law_tile"] sp__law_marked) : OkD P w K mg base T "_law_meeting" (top 55) 3 ["_law_one", "_law_other"] sp__law_meeting := by
  refine ⟨f, fd, hm, F, okD (g := g__law_meeting) F sc__law_meeting len__law_meeting (fun cdv A outer s H E W F R hr hE hp hx => ?_) law__law_meeting⟩
  have nd := sc__law_meeting.nd
  have hu65 := hu65_of hr
  exact (sds_cons (sd_for hp rfl (pid_data (ed_o (B := ⟨⟨W, T⟩, F, H⟩) (k := 2) O__law_marked bp__law_marked (hr.mono (by decide)) hx hE (ad_cons (ed_var 0 (pv 0)) ad_nil))) (gd_tup (is := [2, 3, 4]) rfl (na_cons (pg_name (i := 2) nd rfl (Or.inl rfl)) (na_cons (pg_name (i := 3) nd rfl (Or.inl rfl)) (na_cons (pg_name (i := 4) nd rfl (Or.inl rfl)) na_nil)))) (sds_one (sd_for hp rfl (pid_data (ed_o (B := ⟨⟨W, T⟩, F, H⟩) (k := 2) O__law_marked bp__law_marked (hr.mono (by decide)) hx hE (ad_cons (ed_var 1 (pv 1)) ad_nil))) (gd_tup (is := [5, 6, 7]) rfl (na_cons (pg_name (i := 5) nd rfl (Or.inl rfl)) (na_cons (pg_name (i := 6) nd rfl (Or.inl rfl)) (na_cons (pg_name (i := 7) nd rfl (Or.inl rfl)) na_nil)))) (sds_one (sd_if (td_cmp (o_eq hr.units) (ed_var 2 (pv 2)).toB (ed_var 5 (pv 5)).toB (nomark _)) (sds_one (sd_ret (ed_if (wd_and (td_cmp (o_eq hr.units) (ed_var 3 (pv 3)).toB (ed_var 6 (pv 6)).toB (nomark _)) (wd_and1 (td_cmp (o_ne hr.units) (ed_var 4 (pv 4)).toB (ed_var 7 (pv 7)).toB (nomark _)))).t ed_int (ed_un o_neg ed_int.toB)))) sds_nil)))))
      (sds_one (sd_ret ed_int)))
theorem ok__law_odd {f : Addr} {fd : FuncData} (bt : Bt mg) (ct : Ct K mg) (hm : mg "_law_odd" = some (.ref f)) (F : Fun K "_law_odd" "_law_odd" (top 59) f fd) (O__law_pick : OkD P w K mg base T "_law_pick" (top 49) 2 ["_law_deck_here", "_law_some"] sp__law_pick) : OkD P w K mg base T "_law_odd" (top 59) 3 ["_law_deck_here"] sp__law_odd := by
  refine ⟨f, fd, hm, F, okD (g := g__law_odd) F sc__law_odd len__law_odd (fun cdv A outer s H E W F R hr hE hp hx => ?_) law__law_odd⟩
  have nd := sc__law_odd.nd
  have hu65 := hu65_of hr
  exact (sds_cons (sd_set (i := 1) nd rfl (Or.inl rfl) (fd_lst (ad_cons ed_non (ad_cons ed_bl (ad_cons ed_int (ad_cons (ed_un o_neg ed_int.toB) (ad_cons (ed_bin o_pow ed_int.toB ed_int.toB) (ad_cons ed_str (ad_cons ed_str (ad_cons (ed_tup ad_nil) (ad_cons (fd_lst ad_nil).toE (ad_cons ed_dic0 (ad_cons (ed_tup (ad_cons ed_int (ad_cons ed_int (ad_cons ed_int (ad_cons ed_int (ad_cons ed_int ad_nil)))))) (ad_cons (ed_tup (ad_cons ed_str ad_nil)) (ad_cons (ed_tup (ad_cons (ed_tup ad_nil) ad_nil)) (ad_cons (fd_lst (ad_cons (fd_lst ad_nil).toE ad_nil)).toE (ad_cons (ed_dic1 (k := (.inr "tile")) pe_str (ed_tup (ad_cons ed_int ad_nil))) ad_nil)))))))))))))))).toE)
      (sds_one (sd_ret (ed_o (B := ⟨⟨W, T⟩, F, H⟩) (k := 2) O__law_pick bp__law_pick (hr.mono (by decide)) hx hE (ad_cons (ed_var 0 (pv 0)) (ad_cons (ed_bin o_add (ed_var 1 (pv 1)).toB (fd_lst (ad_cons (ed_tup (ad_cons (ed_tup (ad_cons ed_int (ad_cons ed_int (ad_cons ed_int (ad_cons ed_int (ad_cons ed_int ad_nil)))))) (ad_cons (ed_tup (ad_cons ed_int (ad_cons ed_int ad_nil))) ad_nil))) (ad_cons (ed_tup (ad_cons (ed_tup (ad_cons (ed_tup (ad_cons ed_int (ad_cons ed_int (ad_cons ed_int (ad_cons ed_int (ad_cons ed_int ad_nil)))))) (ad_cons ed_int (ad_cons ed_int ad_nil)))) (ad_cons ed_int (ad_cons ed_int ad_nil)))) (ad_cons ed_str ad_nil)))).toE.toB) ad_nil))))))
theorem ok__law_any_tile {f : Addr} {fd : FuncData} (bt : Bt mg) (ct : Ct K mg) (hm : mg "_law_any_tile" = some (.ref f)) (F : Fun K "_law_any_tile" "_law_any_tile" (top 62) f fd) (O__law_draw : OkD P w K mg base T "_law_draw" (top 48) 1 ["_law_deck_here", "_law_many"] spDraw) (O__law_great : OkD P w K mg base T "_law_great" (top 61) 2 ["_law_deck_here"] sp__law_great) : OkD P w K mg base T "_law_any_tile" (top 62) 3 ["_law_deck_here"] sp__law_any_tile := by
  refine ⟨f, fd, hm, F, okD (g := g__law_any_tile) F sc__law_any_tile len__law_any_tile (fun cdv A outer s H E W F R hr hE hp hx => ?_) law__law_any_tile⟩
  have nd := sc__law_any_tile.nd
  have hu65 := hu65_of hr
  exact (sds_cons (sd_setLc (i := 1) (own := [("_law_j", 3)]) rfl nd rfl rfl (sw_true rfl rfl rfl (by decide +kernel)) (pid_rng1 (by rfl) bt.b_range (ad_cons ed_int ad_nil)) (blkOk_by (own := [("_law_j", 3)]) (N := ["_law_deck_here", "_law_some", "_law_k", "_law_j", "_law_s"]) (sc := defScope (top 62)) (by decide +kernel)) (ct_name (by decide)) (fun _ _ _ _ _ => pg_name (i := 3) nd rfl (Or.inl rfl)) (fun _ _ _ _ _ => tds_nil) (fun _ _ _ _ _ => (ed_if (td_cmp (o_eq hr.units) (ed_o (B := ⟨⟨W, T⟩, F, H⟩) (k := 1) O__law_draw bp__law_draw (hr.mono (by decide)) passL FinE.none (ad_cons (ed_var 0 (pv 0)) (ad_cons ed_int ad_nil))).toB ed_int.toB (nomark _)) (ed_o (B := ⟨⟨W, T⟩, F, H⟩) (k := 2) O__law_great bp__law_great (hr.mono (by decide)) passL FinE.none (ad_cons (ed_var 0 (pv 0)) ad_nil)) (ed_bin o_sub (ed_o (B := ⟨⟨W, T⟩, F, H⟩) (k := 1) O__law_draw bp__law_draw (hr.mono (by decide)) passL FinE.none (ad_cons (ed_var 0 (pv 0)) (ad_cons ed_int ad_nil))).toB ed_int.toB))))
      (sds_cons (sd_par2 (i := 2) (j := 3) rfl nd rfl rfl (by decide) rfl rfl (ad_cons (ed_callTy c_tuple (by rfl) bt.b_tuple nbTuple (abd_cons (ed_bin o_add (ed_var 1 (pv 1)).toB (fd_lst (ad_cons (ed_bin o_sub (ed_bin o_add ed_int.toB (ed_o (B := ⟨⟨W, T⟩, F, H⟩) (k := 1) O__law_draw bp__law_draw (hr.mono (by decide)) hx hE (ad_cons (ed_var 0 (pv 0)) (ad_cons ed_int ad_nil))).toB).toB (ed_callB (c_sum rfl) (by rfl) bt.b_sum nbSum (abd_cons (ed_var 1 (pv 1)).toB abd_nil)).toB) ad_nil)).toE.toB).toB abd_nil)) (ad_cons (ed_o (B := ⟨⟨W, T⟩, F, H⟩) (k := 1) O__law_draw bp__law_draw (hr.mono (by decide)) hx hE (ad_cons (ed_var 0 (pv 0)) (ad_cons ed_int ad_nil))) ad_nil)) (by rfl))
      (sds_cons (sd_set (i := 4) nd rfl (Or.inl rfl) (ed_bin o_mod (ed_callTy (c_intB ct.dig) (by rfl) bt.b_int nbInt (abd_cons (ed_bin o_add (ed_bin o_add (ed_var 3 (pv 3)).toB ed_int.toB).toB (ed_o (B := ⟨⟨W, T⟩, F, H⟩) (k := 1) O__law_draw bp__law_draw (hr.mono (by decide)) hx hE (ad_cons (ed_var 0 (pv 0)) (ad_cons ed_int ad_nil))).toB).toB abd_nil)).toB ed_int.toB))
      (sds_one (sd_ret (ed_tup (ad_cons (ed_var 2 (pv 2)) (ad_cons (ed_callB (c_min2 rfl) (by rfl) bt.b_min nbMin (abd_cons (ed_var 3 (pv 3)).toB (abd_cons (ed_var 4 (pv 4)).toB abd_nil))) (ad_cons (ed_callB (c_max2 rfl) (by rfl) bt.b_max nbMax (abd_cons (ed_var 3 (pv 3)).toB (abd_cons (ed_var 4 (pv 4)).toB abd_nil))) ad_nil)))))))))
theorem ok__law_near {f : Addr} {fd : FuncData} (bt : Bt mg) (ct : Ct K mg) (hm : mg "_law_near" = some (.ref f)) (F : Fun K "_law_near" "_law_near" (top 63) f fd) (O__law_pick : OkD P w K mg base T "_law_pick" (top 49) 2 ["_law_deck_here", "_law_some"] sp__law_pick) (O__law_draw : OkD P w K mg base T "_law_draw" (top 48) 1 ["_law_deck_here", "_law_many"] spDraw) (O__law_corners : OkD P w K mg base T "_law_corners" (top 53) 2 ["_law_tile"] sp__law_corners) (O__law_up : OkV P w K mg base T "_law_up" (top 52) 1 ["_law_k", "_law_j", "_law_much"] [.int 1] sp__law_up) : OkD P w K mg base T "_law_near" (top 63) 3 ["_law_deck_here", "_law_tile"] sp__law_near := by
  refine ⟨f, fd, hm, F, okD (g := g__law_near) F sc__law_near len__law_near (fun cdv A outer s H E W F R hr hE hp hx => ?_) law__law_near⟩
  have nd := sc__law_near.nd
  have hu65 := hu65_of hr
  exact (sds_cons (sd_set (i := 2) nd rfl (Or.inl rfl) (ed_o (B := ⟨⟨W, T⟩, F, H⟩) (k := 2) O__law_pick bp__law_pick (hr.mono (by decide)) hx hE (ad_cons (ed_var 0 (pv 0)) (ad_cons (ed_o (B := ⟨⟨W, T⟩, F, H⟩) (k := 2) O__law_corners bp__law_corners (hr.mono (by decide)) hx hE (ad_cons (ed_var 1 (pv 1)) ad_nil)) ad_nil))))
      (sds_cons (sd_for hp rfl (pid_rng1 (by rfl) bt.b_range (ad_cons (ed_o (B := ⟨⟨W, T⟩, F, H⟩) (k := 2) O__law_pick bp__law_pick (hr.mono (by decide)) hx hE (ad_cons (ed_var 0 (pv 0)) (ad_cons (fd_lst (ad_cons ed_int (ad_cons ed_int (ad_cons ed_int (ad_cons ed_int (ad_cons ed_int (ad_cons ed_int ad_nil))))))).toE ad_nil))) ad_nil)) (gd_name (pg_name (i := 3) nd rfl (Or.inl rfl))) (sds_one (sd_set (i := 2) nd rfl (Or.inl rfl) (ed_v (B := ⟨⟨W, T⟩, F, H⟩) (k := 1) (n := 3) (j := 1) O__law_up rfl bv__law_up_1 (hr.mono (by decide)) hx hE (ad_cons (ed_var 2 (pv 2)) (ad_cons (ed_o (B := ⟨⟨W, T⟩, F, H⟩) (k := 1) O__law_draw bp__law_draw (hr.mono (by decide)) hx hE (ad_cons (ed_var 0 (pv 0)) (ad_cons ed_int ad_nil))) (ad_cons (ed_bin o_sub ed_int.toB (ed_bin o_mul ed_int.toB (ed_o (B := ⟨⟨W, T⟩, F, H⟩) (k := 1) O__law_draw bp__law_draw (hr.mono (by decide)) hx hE (ad_cons (ed_var 0 (pv 0)) (ad_cons ed_int ad_nil))).toB).toB) ad_nil)))))))
      (sds_cons (sd_set (i := 4) nd rfl (Or.inl rfl) (ed_o (B := ⟨⟨W, T⟩, F, H⟩) (k := 1) O__law_draw bp__law_draw (hr.mono (by decide)) hx hE (ad_cons (ed_var 0 (pv 0)) (ad_cons ed_int ad_nil))))
      (sds_cons (sd_set (i := 5) nd rfl (Or.inl rfl) (ed_bin o_mod (ed_callTy (c_intB ct.dig) (by rfl) bt.b_int nbInt (abd_cons (ed_bin o_add (ed_bin o_add (ed_var 4 (pv 4)).toB ed_int.toB).toB (ed_o (B := ⟨⟨W, T⟩, F, H⟩) (k := 1) O__law_draw bp__law_draw (hr.mono (by decide)) hx hE (ad_cons (ed_var 0 (pv 0)) (ad_cons ed_int ad_nil))).toB).toB abd_nil)).toB ed_int.toB))
      (sds_one (sd_ret (ed_tup (ad_cons (ed_v (B := ⟨⟨W, T⟩, F, H⟩) (k := 1) (n := 3) (j := 1) O__law_up rfl bv__law_up_1 (hr.mono (by decide)) hx hE (ad_cons (ed_var 2 (pv 2)) (ad_cons (ed_o (B := ⟨⟨W, T⟩, F, H⟩) (k := 1) O__law_draw bp__law_draw (hr.mono (by decide)) hx hE (ad_cons (ed_var 0 (pv 0)) (ad_cons ed_int ad_nil))) (ad_cons (ed_bin o_sub (ed_bin o_add ed_int.toB (ed_o (B := ⟨⟨W, T⟩, F, H⟩) (k := 1) O__law_draw bp__law_draw (hr.mono (by decide)) hx hE (ad_cons (ed_var 0 (pv 0)) (ad_cons ed_int ad_nil))).toB).toB (ed_callB (c_sum rfl) (by rfl) bt.b_sum nbSum (abd_cons (ed_var 2 (pv 2)).toB abd_nil)).toB) ad_nil)))) (ad_cons (ed_callB (c_min2 rfl) (by rfl) bt.b_min nbMin (abd_cons (ed_var 4 (pv 4)).toB (abd_cons (ed_var 5 (pv 5)).toB abd_nil))) (ad_cons (ed_callB (c_max2 rfl) (by rfl) bt.b_max nbMax (abd_cons (ed_var 4 (pv 4)).toB (abd_cons (ed_var 5 (pv 5)).toB abd_nil))) ad_nil))))))))))
theorem ok_minus {f : Addr} {fd : FuncData} (bt : Bt mg) (ct : Ct K mg) (hm : mg "minus" = some (.ref f)) (F : Fun K "minus" "minus" (top 26) f fd) (O_need_numbers : OkD P w K mg base T "need_numbers" (top 25) 3 ["things"] sp_need_numbers) (O_taken : OkD P w K mg base T "taken" (top 15) 3 ["one", "other"] sp_taken) : OkD P w K mg base T "minus" (top 26) 4 ["one", "other"] sp_minus := by
  refine ⟨f, fd, hm, F, okD (g := g_minus) F sc_minus len_minus (fun cdv A outer s H E W F R hr hE hp hx => ?_) law_minus⟩
  have nd := sc_minus.nd
  have hu65 := hu65_of hr
  exact (sds_cons (sd_drop (ed_o (B := ⟨⟨W, T⟩, F, H⟩) (k := 3) O_need_numbers bp_need_numbers (hr.mono (by decide)) hx hE (ad_cons (ed_tup (ad_cons (ed_var 0 (pv 0)) (ad_cons (ed_var 1 (pv 1)) ad_nil))) ad_nil)).toB)
      (sds_one (sd_ret (ed_o (B := ⟨⟨W, T⟩, F, H⟩) (k := 3) O_taken bp_taken (hr.mono (by decide)) hx hE (ad_cons (ed_var 0 (pv 0)) (ad_cons (ed_var 1 (pv 1)) ad_nil))))))
theorem ok_sign {f : Addr} {fd : FuncData} (bt : Bt mg) (ct : Ct K mg) (hm : mg "sign" = some (.ref f)) (F : Fun K "sign" "sign" (top 27) f fd) (O_need_numbers : OkD P w K mg base T "need_numbers" (top 25) 3 ["things"] sp_need_numbers) (O_sign_of : OkD P w K mg base T "sign_of" (top 11) 2 ["one"] sp_sign_of) : OkD P w K mg base T "sign" (top 27) 4 ["number"] sp_sign := by
  refine ⟨f, fd, hm, F, okD (g := g_sign) F sc_sign len_sign (fun cdv A outer s H E W F R hr hE hp hx => ?_) law_sign⟩
  have nd := sc_sign.nd
  have hu65 := hu65_of hr
  exact (sds_cons (sd_drop (ed_o (B := ⟨⟨W, T⟩, F, H⟩) (k := 3) O_need_numbers bp_need_numbers (hr.mono (by decide)) hx hE (ad_cons (ed_tup (ad_cons (ed_var 0 (pv 0)) ad_nil)) ad_nil)).toB)
      (sds_one (sd_ret (ed_o (B := ⟨⟨W, T⟩, F, H⟩) (k := 2) O_sign_of bp_sign_of (hr.mono (by decide)) hx hE (ad_cons (ed_var 0 (pv 0)) ad_nil)))))
theorem ok_is_tile_row {f : Addr} {fd : FuncData} (bt : Bt mg) (ct : Ct K mg) (hm : mg "is_tile_row" = some (.ref f)) (F : Fun K "is_tile_row" "is_tile_row" (top 29) f fd) (O_is_direction : OkD P w K mg base T "is_direction" (top 19) 2 ["thing"] sp_is_direction) (O_is_corner_five : OkD P w K mg base T "is_corner_five" (top 21) 3 ["thing"] sp_is_corner_five) : OkD P w K mg base T "is_tile_row" (top 29) 4 ["thing"] sp_is_tile_row := by
  refine ⟨f, fd, hm, F, okD (g := g_is_tile_row) F sc_is_tile_row len_is_tile_row (fun cdv A outer s H E W F R hr hE hp hx => ?_) law_is_tile_row⟩
  have nd := sc_is_tile_row.nd
  have hu65 := hu65_of hr
  exact (sds_cons (sd_if (wd_or (td_not (td_val (ed_callB c_isi (by rfl) bt.b_isinstance nbIsi (abd_cons (ed_var 0 (pv 0)).toB (abd_cons (ed_ty (by rfl) bt.b_tuple nbTuple).toB abd_nil))).toB)) (wd_or (td_cmp (o_ne hr.units) (ed_callB c_len (by rfl) bt.b_len nbLen (abd_cons (ed_var 0 (pv 0)).toB abd_nil)).toB ed_int.toB (nomark _)) (wd_or1 (td_not (td_val (ed_o (B := ⟨⟨W, T⟩, F, H⟩) (k := 3) O_is_corner_five bp_is_corner_five (hr.mono (by decide)) hx hE (ad_cons (ed_ix (ed_var 0 (pv 0)).toB ed_int.toB) ad_nil)).toB))))).t (sds_one (sd_ret ed_bl)) sds_nil)
      (sds_one (sd_ret (ed_and (ed_cmp o_le (ed_callB (c_sum rfl) (by rfl) bt.b_sum nbSum (abd_cons (ed_ix (ed_var 0 (pv 0)).toB ed_int.toB).toB abd_nil)).toB ed_int.toB (nomark _)) (ed_and (ed_o (B := ⟨⟨W, T⟩, F, H⟩) (k := 2) O_is_direction bp_is_direction (hr.mono (by decide)) hx hE (ad_cons (ed_ix (ed_var 0 (pv 0)).toB ed_int.toB) ad_nil)) (ed_and (ed_o (B := ⟨⟨W, T⟩, F, H⟩) (k := 2) O_is_direction bp_is_direction (hr.mono (by decide)) hx hE (ad_cons (ed_ix (ed_var 0 (pv 0)).toB ed_int.toB) ad_nil)) (ed_one (ed_cmp o_lt (ed_ix (ed_var 0 (pv 0)).toB ed_int.toB).toB (ed_ix (ed_var 0 (pv 0)).toB ed_int.toB).toB (nomark _)))))))))
theorem ok__law_bent_tile {f : Addr} {fd : FuncData} (bt : Bt mg) (ct : Ct K mg) (hm : mg "_law_bent_tile" = some (.ref f)) (F : Fun K "_law_bent_tile" "_law_bent_tile" (top 60) f fd) (O__law_draw : OkD P w K mg base T "_law_draw" (top 48) 1 ["_law_deck_here", "_law_many"] spDraw) (O__law_odd : OkD P w K mg base T "_law_odd" (top 59) 3 ["_law_deck_here"] sp__law_odd) (O__law_up : OkV P w K mg base T "_law_up" (top 52) 1 ["_law_k", "_law_j", "_law_much"] [.int 1] sp__law_up) (O__law_pick : OkD P w K mg base T "_law_pick" (top 49) 2 ["_law_deck_here", "_law_some"] sp__law_pick) : OkD P w K mg base T "_law_bent_tile" (top 60) 4 ["_law_deck_here", "_law_tile"] sp__law_bent_tile := by
  refine ⟨f, fd, hm, F, okD (g := g__law_bent_tile) F sc__law_bent_tile len__law_bent_tile (fun cdv A outer s H E W F R hr hE hp hx => ?_) law__law_bent_tile⟩
  have nd := sc__law_bent_tile.nd
  have hu65 := hu65_of hr
  exact (sds_cons (sd_setT (is := [2, 3, 4]) rfl (na_cons (pg_name (i := 2) nd rfl (Or.inl rfl)) (na_cons (pg_name (i := 3) nd rfl (Or.inl rfl)) (na_cons (pg_name (i := 4) nd rfl (Or.inl rfl)) na_nil))) (ed_var 1 (pv 1)))
      (sds_cons (sd_par2 (i := 5) (j := 6) rfl nd rfl rfl (by decide) rfl rfl (ad_cons (ed_o (B := ⟨⟨W, T⟩, F, H⟩) (k := 1) O__law_draw bp__law_draw (hr.mono (by decide)) hx hE (ad_cons (ed_var 0 (pv 0)) (ad_cons ed_int ad_nil))) (ad_cons (ed_o (B := ⟨⟨W, T⟩, F, H⟩) (k := 1) O__law_draw bp__law_draw (hr.mono (by decide)) hx hE (ad_cons (ed_var 0 (pv 0)) (ad_cons ed_int ad_nil))) ad_nil)) (by rfl))
      (sds_cons (sd_if (td_cmp o_lt (ed_var 5 (pv 5)).toB ed_int.toB (nomark _)) (sds_one (sd_ret (ed_if (td_cmp (o_eq hr.units) (ed_var 5 (pv 5)).toB ed_int.toB (nomark _)) (fd_callTy c_list (by rfl) bt.b_list nbList (abd_cons (ed_var 1 (pv 1)).toB abd_nil)).toE (ed_tup (ad_cons (fd_callTy c_list (by rfl) bt.b_list nbList (abd_cons (ed_var 2 (pv 2)).toB abd_nil)).toE (ad_cons (ed_var 3 (pv 3)) (ad_cons (ed_var 4 (pv 4)) ad_nil))))))) sds_nil)
      (sds_cons (sd_if (td_cmp o_lt (ed_var 5 (pv 5)).toB ed_int.toB (nomark _)) (sds_one (sd_ret (ed_if (td_cmp (o_eq hr.units) (ed_var 5 (pv 5)).toB ed_int.toB (nomark _)) (ed_tup (ad_cons (ed_var 2 (pv 2)) (ad_cons (ed_var 4 (pv 4)) (ad_cons (ed_var 3 (pv 3)) ad_nil)))) (ed_tup (ad_cons (ed_var 2 (pv 2)) (ad_cons (ed_var 3 (pv 3)) (ad_cons (ed_var 3 (pv 3)) ad_nil))))))) sds_nil)
      (sds_cons (sd_if (td_cmp o_lt (ed_var 5 (pv 5)).toB ed_int.toB (nomark _)) (sds_one (sd_ret (ed_if (td_cmp (o_eq hr.units) (ed_var 5 (pv 5)).toB ed_int.toB (nomark _)) (ed_tup (ad_cons (ed_var 2 (pv 2)) (ad_cons (ed_var 3 (pv 3)) ad_nil))) (ed_tup (ad_cons (ed_var 2 (pv 2)) (ad_cons (ed_var 3 (pv 3)) (ad_cons (ed_var 4 (pv 4)) (ad_cons ed_int ad_nil)))))))) sds_nil)
      (sds_cons (sd_if (td_cmp (o_eq hr.units) (ed_var 5 (pv 5)).toB ed_int.toB (nomark _)) (sds_one (sd_ret (ed_tup (ad_cons (ed_v (B := ⟨⟨W, T⟩, F, H⟩) (k := 1) (n := 3) (j := 1) O__law_up rfl bv__law_up_1 (hr.mono (by decide)) hx hE (ad_cons (ed_var 2 (pv 2)) (ad_cons (ed_var 6 (pv 6)) (ad_cons (ed_o (B := ⟨⟨W, T⟩, F, H⟩) (k := 2) O__law_pick bp__law_pick (hr.mono (by decide)) hx hE (ad_cons (ed_var 0 (pv 0)) (ad_cons (fd_lst (ad_cons ed_int (ad_cons (ed_un o_neg ed_int.toB) (ad_cons ed_int (ad_cons (ed_un o_neg ed_int.toB) (ad_cons ed_int (ad_cons ed_int (ad_cons (ed_un o_neg ed_int.toB) ad_nil)))))))).toE ad_nil))) ad_nil)))) (ad_cons (ed_var 3 (pv 3)) (ad_cons (ed_var 4 (pv 4)) ad_nil)))))) sds_nil)
      (sds_cons (sd_if (td_cmp o_lt (ed_var 5 (pv 5)).toB ed_int.toB (nomark _)) (sds_one (sd_ret (ed_if (td_cmp (o_eq hr.units) (ed_var 5 (pv 5)).toB ed_int.toB (nomark _)) (ed_tup (ad_cons (ed_sl (ed_var 2 (pv 2)).toB od_none (od_some ed_int)) (ad_cons (ed_var 3 (pv 3)) (ad_cons (ed_var 4 (pv 4)) ad_nil)))) (ed_tup (ad_cons (ed_bin o_add (ed_var 2 (pv 2)).toB (ed_tup (ad_cons ed_int ad_nil)).toB) (ad_cons (ed_var 3 (pv 3)) (ad_cons (ed_var 4 (pv 4)) ad_nil))))))) sds_nil)
      (sds_cons (sd_if (td_cmp (o_eq hr.units) (ed_var 5 (pv 5)).toB ed_int.toB (nomark _)) (sds_one (sd_ret (ed_tup (ad_cons (ed_bin o_add (ed_bin o_add (ed_sl (ed_var 2 (pv 2)).toB od_none (od_some (ed_var 6 (pv 6)))).toB (ed_tup (ad_cons (ed_o (B := ⟨⟨W, T⟩, F, H⟩) (k := 2) O__law_pick bp__law_pick (hr.mono (by decide)) hx hE (ad_cons (ed_var 0 (pv 0)) (ad_cons (fd_lst (ad_cons ed_bl (ad_cons ed_bl (ad_cons ed_non (ad_cons ed_str (ad_cons (ed_tup (ad_cons ed_int ad_nil)) (ad_cons (fd_lst (ad_cons ed_int ad_nil)).toE ad_nil))))))).toE ad_nil))) ad_nil)).toB).toB (ed_sl (ed_var 2 (pv 2)).toB (od_some (ed_bin o_add (ed_var 6 (pv 6)).toB ed_int.toB)) od_none).toB) (ad_cons (ed_var 3 (pv 3)) (ad_cons (ed_var 4 (pv 4)) ad_nil)))))) sds_nil)
      (sds_cons (sd_if (td_cmp (o_eq hr.units) (ed_var 5 (pv 5)).toB ed_int.toB (nomark _)) (sds_one (sd_ret (ed_tup (ad_cons (ed_var 2 (pv 2)) (ad_cons (ed_o (B := ⟨⟨W, T⟩, F, H⟩) (k := 2) O__law_pick bp__law_pick (hr.mono (by decide)) hx hE (ad_cons (ed_var 0 (pv 0)) (ad_cons (fd_lst (ad_cons ed_bl (ad_cons ed_bl (ad_cons ed_non (ad_cons (ed_un o_neg ed_int.toB) (ad_cons ed_int (ad_cons ed_str (ad_cons (ed_tup (ad_cons (ed_var 3 (pv 3)) ad_nil)) ad_nil)))))))).toE ad_nil))) (ad_cons (ed_var 4 (pv 4)) ad_nil)))))) sds_nil)
      (sds_cons (sd_if (td_cmp (o_eq hr.units) (ed_var 5 (pv 5)).toB ed_int.toB (nomark _)) (sds_one (sd_ret (ed_tup (ad_cons (ed_var 2 (pv 2)) (ad_cons (ed_var 3 (pv 3)) (ad_cons (ed_o (B := ⟨⟨W, T⟩, F, H⟩) (k := 2) O__law_pick bp__law_pick (hr.mono (by decide)) hx hE (ad_cons (ed_var 0 (pv 0)) (ad_cons (fd_lst (ad_cons ed_bl (ad_cons ed_int (ad_cons ed_non (ad_cons ed_str (ad_cons (ed_un o_neg ed_int.toB) (ad_cons (fd_lst (ad_cons (ed_var 4 (pv 4)) ad_nil)).toE (ad_cons (ed_bin o_pow ed_int.toB ed_int.toB) ad_nil)))))))).toE ad_nil))) ad_nil)))))) sds_nil)
      (sds_one (sd_ret (ed_if (td_cmp (o_eq hr.units) (ed_var 5 (pv 5)).toB ed_int.toB (nomark _)) (ed_tup (ad_cons (ed_tup (ad_cons (ed_var 2 (pv 2)) (ad_cons (ed_var 3 (pv 3)) (ad_cons (ed_var 4 (pv 4)) ad_nil)))) ad_nil)) (ed_o (B := ⟨⟨W, T⟩, F, H⟩) (k := 3) O__law_odd bp__law_odd (hr.mono (by decide)) hx hE (ad_cons (ed_var 0 (pv 0)) ad_nil)))))))))))))))
theorem ok_need_tile {f : Addr} {fd : FuncData} (bt : Bt mg) (ct : Ct K mg) (hm : mg "need_tile" = some (.ref f)) (F : Fun K "need_tile" "need_tile" (top 30) f fd) (O_is_tile_row : OkD P w K mg base T "is_tile_row" (top 29) 4 ["thing"] sp_is_tile_row) : OkD P w K mg base T "need_tile" (top 30) 5 ["thing"] sp_need_tile := by
  obtain ⟨C_BadTile, fI_BadTile, T_BadTile, N_BadTile⟩ := ct.er_BadTile
  refine ⟨f, fd, hm, F, okD (g := g_need_tile) F sc_need_tile len_need_tile (fun cdv A outer s H E W F R hr hE hp hx => ?_) law_need_tile⟩
  have nd := sc_need_tile.nd
  have hu65 := hu65_of hr
  exact (sds_one (sd_if (td_not (td_val (ed_o (B := ⟨⟨W, T⟩, F, H⟩) (k := 4) O_is_tile_row bp_is_tile_row (hr.mono (by decide)) hx hE (ad_cons (ed_var 0 (pv 0)) ad_nil)).toB)) (sds_one (sd_raise rfl T_BadTile N_BadTile hr (takes_of rfl rfl rfl rfl) hE (ed_var 0 (pv 0)))) sds_nil))
theorem ok__law_is_parted {f : Addr} {fd : FuncData} (bt : Bt mg) (ct : Ct K mg) (hm : mg "_law_is_parted" = some (.ref f)) (F : Fun K "_law_is_parted" "_law_is_parted" (top 65) f fd) (O_point_of : OkD P w K mg base T "point_of" (top 45) 3 ["row"] sp_point_of) (O__law_corners : OkD P w K mg base T "_law_corners" (top 53) 2 ["_law_tile"] sp__law_corners) (O_sign : OkD P w K mg base T "sign" (top 27) 4 ["number"] sp_sign) (O_minus : OkD P w K mg base T "minus" (top 26) 4 ["one", "other"] sp_minus) : OkD P w K mg base T "_law_is_parted" (top 65) 5 ["_law_one", "_law_other"] sp__law_is_parted := by
  refine ⟨f, fd, hm, F, okD (g := g__law_is_parted) F sc__law_is_parted len__law_is_parted (fun cdv A outer s H E W F R hr hE hp hx => ?_) law__law_is_parted⟩
  have nd := sc__law_is_parted.nd
  have hu65 := hu65_of hr
  exact (sds_cons (sd_setLc (i := 2) (own := [("_law_k", 8)]) rfl nd rfl rfl (sw_true rfl rfl rfl (by decide +kernel)) (pid_data (ed_o (B := ⟨⟨W, T⟩, F, H⟩) (k := 2) O__law_corners bp__law_corners (hr.mono (by decide)) hx hE (ad_cons (ed_var 0 (pv 0)) ad_nil))) (blkOk_by (own := [("_law_k", 8)]) (N := ["_law_one", "_law_other", "_law_near_here", "_law_far", "_law_d", "_law_ends", "_law_c", "_law_e", "_law_k"]) (sc := defScope (top 65)) (by decide +kernel)) (ct_name (by decide)) (fun _ _ _ _ _ => pg_name (i := 8) nd rfl (Or.inl rfl)) (fun _ _ _ _ _ => tds_nil) (fun _ _ _ _ _ => (ed_o (B := ⟨⟨W, T⟩, F, H⟩) (k := 3) O_point_of bp_point_of (hr.mono (by decide)) passL FinE.none (ad_cons (ed_var 8 (pv 8)) ad_nil))))
      (sds_cons (sd_setLc (i := 3) (own := [("_law_k", 8)]) rfl nd rfl rfl (sw_true rfl rfl rfl (by decide +kernel)) (pid_data (ed_o (B := ⟨⟨W, T⟩, F, H⟩) (k := 2) O__law_corners bp__law_corners (hr.mono (by decide)) hx hE (ad_cons (ed_var 1 (pv 1)) ad_nil))) (blkOk_by (own := [("_law_k", 8)]) (N := ["_law_one", "_law_other", "_law_near_here", "_law_far", "_law_d", "_law_ends", "_law_c", "_law_e", "_law_k"]) (sc := defScope (top 65)) (by decide +kernel)) (ct_name (by decide)) (fun _ _ _ _ _ => pg_name (i := 8) nd rfl (Or.inl rfl)) (fun _ _ _ _ _ => tds_nil) (fun _ _ _ _ _ => (ed_o (B := ⟨⟨W, T⟩, F, H⟩) (k := 3) O_point_of bp_point_of (hr.mono (by decide)) passL FinE.none (ad_cons (ed_var 8 (pv 8)) ad_nil))))
      (sds_cons (sd_for hp rfl (pid_data (ed_bin o_add (ed_sl (ed_var 0 (pv 0)).toB (od_some ed_int) od_none).toB (ed_sl (ed_var 1 (pv 1)).toB (od_some ed_int) od_none).toB)) (gd_name (pg_name (i := 4) nd rfl (Or.inl rfl))) (sds_cons (sd_setL (i := 5) nd rfl (Or.inl rfl) (fd_lst ad_nil))
      (sds_cons (sd_for hp rfl (pid_data (ed_var 2 (pv 2))) (gd_name (pg_name (i := 6) nd rfl (Or.inl rfl))) (sds_one (sd_for hp rfl (pid_data (ed_var 3 (pv 3))) (gd_name (pg_name (i := 7) nd rfl (Or.inl rfl))) (sds_one (sd_appE (pv 5) (ed_o (B := ⟨⟨W, T⟩, F, H⟩) (k := 4) O_sign bp_sign (hr.mono (by decide)) hx hE (ad_cons (ed_o (B := ⟨⟨W, T⟩, F, H⟩) (k := 4) O_minus bp_minus (hr.mono (by decide)) hx hE (ad_cons (ed_o (B := ⟨⟨W, T⟩, F, H⟩) (k := 4) O_minus bp_minus (hr.mono (by decide)) hx hE (ad_cons (ed_ix (ed_var 6 (pv 6)).toB (ed_bin o_sub (ed_var 4 (pv 4)).toB ed_int.toB).toB) (ad_cons (ed_ix (ed_var 6 (pv 6)).toB (ed_bin o_sub (ed_var 4 (pv 4)).toB ed_int.toB).toB) ad_nil))) (ad_cons (ed_o (B := ⟨⟨W, T⟩, F, H⟩) (k := 4) O_minus bp_minus (hr.mono (by decide)) hx hE (ad_cons (ed_ix (ed_var 7 (pv 7)).toB (ed_bin o_sub (ed_var 4 (pv 4)).toB ed_int.toB).toB) (ad_cons (ed_ix (ed_var 7 (pv 7)).toB (ed_bin o_sub (ed_var 4 (pv 4)).toB ed_int.toB).toB) ad_nil))) ad_nil))) ad_nil)))))))
      (sds_one (sd_if (wd_or (td_cmp o_ge (ed_callB (c_minL rfl) (by rfl) bt.b_min nbMin (abd_cons (bd_var 5 (pv 5)) abd_nil)).toB ed_int.toB (nomark _)) (wd_or1 (td_cmp o_le (ed_callB (c_maxL rfl) (by rfl) bt.b_max nbMax (abd_cons (bd_var 5 (pv 5)) abd_nil)).toB ed_int.toB (nomark _)))).t (sds_one (sd_ret ed_bl)) sds_nil)))))
      (sds_one (sd_ret ed_bl)))))
theorem ok_corners_of {f : Addr} {fd : FuncData} (bt : Bt mg) (ct : Ct K mg) (hm : mg "corners_of" = some (.ref f)) (F : Fun K "corners_of" "corners_of" (top 31) f fd) (O_need_tile : OkD P w K mg base T "need_tile" (top 30) 5 ["thing"] sp_need_tile) (O_raised : OkD P w K mg base T "raised" (top 22) 1 ["row", "direction"] sp_raised) : OkD P w K mg base T "corners_of" (top 31) 6 ["tile"] sp_corners_of := by
  refine ⟨f, fd, hm, F, okD (g := g_corners_of) F sc_corners_of len_corners_of (fun cdv A outer s H E W F R hr hE hp hx => ?_) law_corners_of⟩
  have nd := sc_corners_of.nd
  have hu65 := hu65_of hr
  exact (sds_cons (sd_drop (ed_o (B := ⟨⟨W, T⟩, F, H⟩) (k := 5) O_need_tile bp_need_tile (hr.mono (by decide)) hx hE (ad_cons (ed_var 0 (pv 0)) ad_nil)).toB)
      (sds_cons (sd_setT (is := [1, 2, 3]) rfl (na_cons (pg_name (i := 1) nd rfl (Or.inl rfl)) (na_cons (pg_name (i := 2) nd rfl (Or.inl rfl)) (na_cons (pg_name (i := 3) nd rfl (Or.inl rfl)) na_nil))) (ed_var 0 (pv 0)))
      (sds_cons (sd_set (i := 4) nd rfl (Or.inl rfl) (ed_o (B := ⟨⟨W, T⟩, F, H⟩) (k := 1) O_raised bp_raised (hr.mono (by decide)) hx hE (ad_cons (ed_var 1 (pv 1)) (ad_cons (ed_var 2 (pv 2)) ad_nil))))
      (sds_one (sd_ret (ed_tup (ad_cons (ed_var 1 (pv 1)) (ad_cons (ed_var 4 (pv 4)) (ad_cons (ed_o (B := ⟨⟨W, T⟩, F, H⟩) (k := 1) O_raised bp_raised (hr.mono (by decide)) hx hE (ad_cons (ed_var 1 (pv 1)) (ad_cons (ed_var 3 (pv 3)) ad_nil))) (ad_cons (ed_o (B := ⟨⟨W, T⟩, F, H⟩) (k := 1) O_raised bp_raised (hr.mono (by decide)) hx hE (ad_cons (ed_var 4 (pv 4)) (ad_cons (ed_var 3 (pv 3)) ad_nil))) ad_nil))))))))))
theorem ok_edges_of {f : Addr} {fd : FuncData} (bt : Bt mg) (ct : Ct K mg) (hm : mg "edges_of" = some (.ref f)) (F : Fun K "edges_of" "edges_of" (top 32) f fd) (O_need_tile : OkD P w K mg base T "need_tile" (top 30) 5 ["thing"] sp_need_tile) (O_raised : OkD P w K mg base T "raised" (top 22) 1 ["row", "direction"] sp_raised) : OkD P w K mg base T "edges_of" (top 32) 6 ["tile"] sp_edges_of := by
  refine ⟨f, fd, hm, F, okD (g := g_edges_of) F sc_edges_of len_edges_of (fun cdv A outer s H E W F R hr hE hp hx => ?_) law_edges_of⟩
  have nd := sc_edges_of.nd
  have hu65 := hu65_of hr
  exact (sds_cons (sd_drop (ed_o (B := ⟨⟨W, T⟩, F, H⟩) (k := 5) O_need_tile bp_need_tile (hr.mono (by decide)) hx hE (ad_cons (ed_var 0 (pv 0)) ad_nil)).toB)
      (sds_cons (sd_setT (is := [1, 2, 3]) rfl (na_cons (pg_name (i := 1) nd rfl (Or.inl rfl)) (na_cons (pg_name (i := 2) nd rfl (Or.inl rfl)) (na_cons (pg_name (i := 3) nd rfl (Or.inl rfl)) na_nil))) (ed_var 0 (pv 0)))
      (sds_one (sd_ret (ed_tup (ad_cons (ed_tup (ad_cons (ed_var 1 (pv 1)) (ad_cons (ed_var 2 (pv 2)) ad_nil))) (ad_cons (ed_tup (ad_cons (ed_var 1 (pv 1)) (ad_cons (ed_var 3 (pv 3)) ad_nil))) (ad_cons (ed_tup (ad_cons (ed_o (B := ⟨⟨W, T⟩, F, H⟩) (k := 1) O_raised bp_raised (hr.mono (by decide)) hx hE (ad_cons (ed_var 1 (pv 1)) (ad_cons (ed_var 3 (pv 3)) ad_nil))) (ad_cons (ed_var 2 (pv 2)) ad_nil))) (ad_cons (ed_tup (ad_cons (ed_o (B := ⟨⟨W, T⟩, F, H⟩) (k := 1) O_raised bp_raised (hr.mono (by decide)) hx hE (ad_cons (ed_var 1 (pv 1)) (ad_cons (ed_var 2 (pv 2)) ad_nil))) (ad_cons (ed_var 3 (pv 3)) ad_nil))) ad_nil)))))))))
theorem ok_is_thick {f : Addr} {fd : FuncData} (bt : Bt mg) (ct : Ct K mg) (hm : mg "is_thick" = some (.ref f)) (F : Fun K "is_thick" "is_thick" (top 33) f fd) (O_need_tile : OkD P w K mg base T "need_tile" (top 30) 5 ["thing"] sp_need_tile) (O_are_near : OkD P w K mg base T "are_near" (top 23) 1 ["r", "s"] sp_are_near) : OkD P w K mg base T "is_thick" (top 33) 6 ["tile"] sp_is_thick := by
  refine ⟨f, fd, hm, F, okD (g := g_is_thick) F sc_is_thick len_is_thick (fun cdv A outer s H E W F R hr hE hp hx => ?_) law_is_thick⟩
  have nd := sc_is_thick.nd
  have hu65 := hu65_of hr
  exact (sds_cons (sd_drop (ed_o (B := ⟨⟨W, T⟩, F, H⟩) (k := 5) O_need_tile bp_need_tile (hr.mono (by decide)) hx hE (ad_cons (ed_var 0 (pv 0)) ad_nil)).toB)
      (sds_one (sd_ret (ed_o (B := ⟨⟨W, T⟩, F, H⟩) (k := 1) O_are_near bp_are_near (hr.mono (by decide)) hx hE (ad_cons (ed_ix (ed_var 0 (pv 0)).toB ed_int.toB) (ad_cons (ed_ix (ed_var 0 (pv 0)).toB ed_int.toB) ad_nil))))))
theorem ok_is_low {f : Addr} {fd : FuncData} (bt : Bt mg) (ct : Ct K mg) (hm : mg "is_low" = some (.ref f)) (F : Fun K "is_low" "is_low" (top 34) f fd) (O_need_tile : OkD P w K mg base T "need_tile" (top 30) 5 ["thing"] sp_need_tile) : OkD P w K mg base T "is_low" (top 34) 6 ["tile"] sp_is_low := by
  refine ⟨f, fd, hm, F, okD (g := g_is_low) F sc_is_low len_is_low (fun cdv A outer s H E W F R hr hE hp hx => ?_) law_is_low⟩
  have nd := sc_is_low.nd
  have hu65 := hu65_of hr
  exact (sds_cons (sd_drop (ed_o (B := ⟨⟨W, T⟩, F, H⟩) (k := 5) O_need_tile bp_need_tile (hr.mono (by decide)) hx hE (ad_cons (ed_var 0 (pv 0)) ad_nil)).toB)
      (sds_one (sd_ret (ed_cmp (o_eq hr.units) (ed_callB (c_sum rfl) (by rfl) bt.b_sum nbSum (abd_cons (ed_ix (ed_var 0 (pv 0)).toB ed_int.toB).toB abd_nil)).toB ed_int.toB (nomark _)))))
theorem ok_marks_of {f : Addr} {fd : FuncData} (bt : Bt mg) (ct : Ct K mg) (hm : mg "marks_of" = some (.ref f)) (F : Fun K "marks_of" "marks_of" (top 35) f fd) (O_is_low : OkD P w K mg base T "is_low" (top 34) 6 ["tile"] sp_is_low) (O_is_thick : OkD P w K mg base T "is_thick" (top 33) 6 ["tile"] sp_is_thick) : OkD P w K mg base T "marks_of" (top 35) 7 ["tile"] sp_marks_of := by
  refine ⟨f, fd, hm, F, okD (g := g_marks_of) F sc_marks_of len_marks_of (fun cdv A outer s H E W F R hr hE hp hx => ?_) law_marks_of⟩
  have nd := sc_marks_of.nd
  have hu65 := hu65_of hr
  exact (sds_cons (sd_set (i := 1) nd rfl (Or.inl rfl) (ed_if (td_cmp (o_eq hr.units) (ed_o (B := ⟨⟨W, T⟩, F, H⟩) (k := 6) O_is_thick bp_is_thick (hr.mono (by decide)) hx hE (ad_cons (ed_var 0 (pv 0)) ad_nil)).toB (ed_o (B := ⟨⟨W, T⟩, F, H⟩) (k := 6) O_is_low bp_is_low (hr.mono (by decide)) hx hE (ad_cons (ed_var 0 (pv 0)) ad_nil)).toB (nomark _)) ed_str ed_str))
      (sds_cons (sd_if (td_val (ed_o (B := ⟨⟨W, T⟩, F, H⟩) (k := 6) O_is_low bp_is_low (hr.mono (by decide)) hx hE (ad_cons (ed_var 0 (pv 0)) ad_nil)).toB) (sds_one (sd_ret (ed_tup (ad_cons ed_str (ad_cons ed_str (ad_cons (ed_var 1 (pv 1)) (ad_cons (ed_var 1 (pv 1)) ad_nil))))))) sds_nil)
      (sds_one (sd_ret (ed_tup (ad_cons (ed_var 1 (pv 1)) (ad_cons (ed_var 1 (pv 1)) (ad_cons ed_str (ad_cons ed_str ad_nil)))))))))
theorem ok_is_parted {f : Addr} {fd : FuncData} (bt : Bt mg) (ct : Ct K mg) (hm : mg "is_parted" = some (.ref f)) (F : Fun K "is_parted" "is_parted" (top 40) f fd) (O_beside : OkD P w K mg base T "beside" (top 39) 1 ["row", "direction"] sp_beside) (O_corners_of : OkD P w K mg base T "corners_of" (top 31) 6 ["tile"] sp_corners_of) (O_compared : OkD P w K mg base T "compared" (top 12) 2 ["one", "other"] sp_compared) (O_greatest : OkD P w K mg base T "greatest" (top 16) 3 ["numbers"] sp_greatest) (O_least : OkD P w K mg base T "least" (top 17) 3 ["numbers"] sp_least) : OkD P w K mg base T "is_parted" (top 40) 7 ["one", "other", "direction"] sp_is_parted := by
  refine ⟨f, fd, hm, F, okD (g := g_is_parted) F sc_is_parted len_is_parted (fun cdv A outer s H E W F R hr hE hp hx => ?_) law_is_parted⟩
  have nd := sc_is_parted.nd
  have hu65 := hu65_of hr
  exact (sds_cons (sd_setLc (i := 3) (own := [("corner", 5)]) rfl nd rfl rfl (sw_true rfl rfl rfl (by decide +kernel)) (pid_data (ed_o (B := ⟨⟨W, T⟩, F, H⟩) (k := 6) O_corners_of bp_corners_of (hr.mono (by decide)) hx hE (ad_cons (ed_var 0 (pv 0)) ad_nil))) (blkOk_by (own := [("corner", 5)]) (N := ["one", "other", "direction", "near", "far", "corner"]) (sc := defScope (top 40)) (by decide +kernel)) (ct_name (by decide)) (fun _ _ _ _ _ => pg_name (i := 5) nd rfl (Or.inl rfl)) (fun _ _ _ _ _ => tds_nil) (fun _ _ _ _ _ => (ed_o (B := ⟨⟨W, T⟩, F, H⟩) (k := 1) O_beside bp_beside (hr.mono (by decide)) passL FinE.none (ad_cons (ed_var 5 (pv 5)) (ad_cons (ed_var 2 (pv 2)) ad_nil)))))
      (sds_cons (sd_setLc (i := 4) (own := [("corner", 5)]) rfl nd rfl rfl (sw_true rfl rfl rfl (by decide +kernel)) (pid_data (ed_o (B := ⟨⟨W, T⟩, F, H⟩) (k := 6) O_corners_of bp_corners_of (hr.mono (by decide)) hx hE (ad_cons (ed_var 1 (pv 1)) ad_nil))) (blkOk_by (own := [("corner", 5)]) (N := ["one", "other", "direction", "near", "far", "corner"]) (sc := defScope (top 40)) (by decide +kernel)) (ct_name (by decide)) (fun _ _ _ _ _ => pg_name (i := 5) nd rfl (Or.inl rfl)) (fun _ _ _ _ _ => tds_nil) (fun _ _ _ _ _ => (ed_o (B := ⟨⟨W, T⟩, F, H⟩) (k := 1) O_beside bp_beside (hr.mono (by decide)) passL FinE.none (ad_cons (ed_var 5 (pv 5)) (ad_cons (ed_var 2 (pv 2)) ad_nil)))))
      (sds_one (sd_ret (ed_or (ed_cmp o_le (ed_o (B := ⟨⟨W, T⟩, F, H⟩) (k := 2) O_compared bp_compared (hr.mono (by decide)) hx hE (ad_cons (ed_o (B := ⟨⟨W, T⟩, F, H⟩) (k := 3) O_greatest bp_greatest (hr.mono (by decide)) hx hE (ad_cons (ed_var 3 (pv 3)) ad_nil)) (ad_cons (ed_o (B := ⟨⟨W, T⟩, F, H⟩) (k := 3) O_least bp_least (hr.mono (by decide)) hx hE (ad_cons (ed_var 4 (pv 4)) ad_nil)) ad_nil))).toB ed_int.toB (nomark _)) (ed_one (ed_cmp o_le (ed_o (B := ⟨⟨W, T⟩, F, H⟩) (k := 2) O_compared bp_compared (hr.mono (by decide)) hx hE (ad_cons (ed_o (B := ⟨⟨W, T⟩, F, H⟩) (k := 3) O_greatest bp_greatest (hr.mono (by decide)) hx hE (ad_cons (ed_var 4 (pv 4)) ad_nil)) (ad_cons (ed_o (B := ⟨⟨W, T⟩, F, H⟩) (k := 3) O_least bp_least (hr.mono (by decide)) hx hE (ad_cons (ed_var 3 (pv 3)) ad_nil)) ad_nil))).toB ed_int.toB (nomark _))))))))
theorem ok_does_fit {f : Addr} {fd : FuncData} (bt : Bt mg) (ct : Ct K mg) (hm : mg "does_fit" = some (.ref f)) (F : Fun K "does_fit" "does_fit" (top 37) f fd) (O_edges_of : OkD P w K mg base T "edges_of" (top 32) 6 ["tile"] sp_edges_of) (O_lies_left : OkD P w K mg base T "lies_left" (top 36) 1 ["tile", "number"] sp_lies_left) (O_marks_of : OkD P w K mg base T "marks_of" (top 35) 7 ["tile"] sp_marks_of) : OkD P w K mg base T "does_fit" (top 37) 8 ["one", "other"] sp_does_fit := by
  refine ⟨f, fd, hm, F, okD (g := g_does_fit) F sc_does_fit len_does_fit (fun cdv A outer s H E W F R hr hE hp hx => ?_) law_does_fit⟩
  have nd := sc_does_fit.nd
  have hu65 := hu65_of hr
  exact (sds_cons (sd_par2 (i := 2) (j := 3) rfl nd rfl rfl (by decide) rfl rfl (ad_cons (ed_o (B := ⟨⟨W, T⟩, F, H⟩) (k := 6) O_edges_of bp_edges_of (hr.mono (by decide)) hx hE (ad_cons (ed_var 0 (pv 0)) ad_nil)) (ad_cons (ed_o (B := ⟨⟨W, T⟩, F, H⟩) (k := 6) O_edges_of bp_edges_of (hr.mono (by decide)) hx hE (ad_cons (ed_var 1 (pv 1)) ad_nil)) ad_nil)) (by rfl))
      (sds_cons (sd_for hp rfl (pid_rng1 (by rfl) bt.b_range (ad_cons ed_int ad_nil)) (gd_name (pg_name (i := 4) nd rfl (Or.inl rfl))) (sds_one (sd_for hp rfl (pid_rng1 (by rfl) bt.b_range (ad_cons ed_int ad_nil)) (gd_name (pg_name (i := 5) nd rfl (Or.inl rfl))) (sds_one (sd_if (wd_and (td_cmp (o_eq hr.units) (ed_ix (ed_var 2 (pv 2)).toB (ed_var 4 (pv 4)).toB).toB (ed_ix (ed_var 3 (pv 3)).toB (ed_var 5 (pv 5)).toB).toB (nomark _)) (wd_and1 (td_cmp (o_ne hr.units) (ed_o (B := ⟨⟨W, T⟩, F, H⟩) (k := 1) O_lies_left bp_lies_left (hr.mono (by decide)) hx hE (ad_cons (ed_var 0 (pv 0)) (ad_cons (ed_var 4 (pv 4)) ad_nil))).toB (ed_o (B := ⟨⟨W, T⟩, F, H⟩) (k := 1) O_lies_left bp_lies_left (hr.mono (by decide)) hx hE (ad_cons (ed_var 1 (pv 1)) (ad_cons (ed_var 5 (pv 5)) ad_nil))).toB (nomark _)))).t (sds_one (sd_if (td_cmp (o_eq hr.units) (ed_ix (ed_o (B := ⟨⟨W, T⟩, F, H⟩) (k := 7) O_marks_of bp_marks_of (hr.mono (by decide)) hx hE (ad_cons (ed_var 0 (pv 0)) ad_nil)).toB (ed_var 4 (pv 4)).toB).toB (ed_ix (ed_o (B := ⟨⟨W, T⟩, F, H⟩) (k := 7) O_marks_of bp_marks_of (hr.mono (by decide)) hx hE (ad_cons (ed_var 1 (pv 1)) ad_nil)).toB (ed_var 5 (pv 5)).toB).toB (nomark _)) (sds_one (sd_ret ed_bl)) sds_nil)) sds_nil)))))
      (sds_one (sd_ret ed_bl))))
theorem ok_are_overlapping {f : Addr} {fd : FuncData} (bt : Bt mg) (ct : Ct K mg) (hm : mg "are_overlapping" = some (.ref f)) (F : Fun K "are_overlapping" "are_overlapping" (top 41) f fd) (O_is_parted : OkD P w K mg base T "is_parted" (top 40) 7 ["one", "other", "direction"] sp_is_parted) : OkD P w K mg base T "are_overlapping" (top 41) 8 ["one", "other"] sp_are_overlapping := by
  refine ⟨f, fd, hm, F, okD (g := g_are_overlapping) F sc_are_overlapping len_are_overlapping (fun cdv A outer s H E W F R hr hE hp hx => ?_) law_are_overlapping⟩
  have nd := sc_are_overlapping.nd
  have hu65 := hu65_of hr
  exact (sds_one (sd_ret (ed_or (ed_cmp (o_eq hr.units) (ed_var 0 (pv 0)).toB (ed_var 1 (pv 1)).toB (nomark _)) (ed_one (ed_not (ed_callB (c_any rfl) (by rfl) bt.b_any nbAny (abd_cons (fd_lc (own := [("direction", 2)]) rfl nd (pid_data (ed_bin o_add (ed_sl (ed_var 0 (pv 0)).toB (od_some ed_int) od_none).toB (ed_sl (ed_var 1 (pv 1)).toB (od_some ed_int) od_none).toB)) (blkOk_by (own := [("direction", 2)]) (N := ["one", "other", "direction"]) (sc := defScope (top 41)) (by decide +kernel)) (ct_name (by decide)) (fun _ _ _ _ _ => pg_name (i := 2) nd rfl (Or.inl rfl)) (fun _ _ _ _ _ => tds_nil) (fun _ _ _ _ _ => (ed_o (B := ⟨⟨W, T⟩, F, H⟩) (k := 7) O_is_parted bp_is_parted (hr.mono (by decide)) passL FinE.none (ad_cons (ed_var 0 (pv 0)) (ad_cons (ed_var 1 (pv 1)) (ad_cons (ed_var 2 (pv 2)) ad_nil)))))).toE.toB abd_nil)).toB)))))
theorem ok_do_overlap {f : Addr} {fd : FuncData} (bt : Bt mg) (ct : Ct K mg) (hm : mg "do_overlap" = some (.ref f)) (F : Fun K "do_overlap" "do_overlap" (top 43) f fd) (O_are_overlapping : OkD P w K mg base T "are_overlapping" (top 41) 8 ["one", "other"] sp_are_overlapping) (O_is_tile_row : OkD P w K mg base T "is_tile_row" (top 29) 4 ["thing"] sp_is_tile_row) : OkD P w K mg base T "do_overlap" (top 43) 9 ["one", "other"] sp_do_overlap := by
  obtain ⟨C_BadTile, fI_BadTile, T_BadTile, N_BadTile⟩ := ct.er_BadTile
  refine ⟨f, fd, hm, F, okD (g := g_do_overlap) F sc_do_overlap len_do_overlap (fun cdv A outer s H E W F R hr hE hp hx => ?_) law_do_overlap⟩
  have nd := sc_do_overlap.nd
  have hu65 := hu65_of hr
  exact (sds_cons (sd_for hp rfl (pid_data (ed_tup (ad_cons (ed_var 0 (pv 0)) (ad_cons (ed_var 1 (pv 1)) ad_nil)))) (gd_name (pg_name (i := 2) nd rfl (Or.inl rfl))) (sds_one (sd_if (td_not (td_val (ed_o (B := ⟨⟨W, T⟩, F, H⟩) (k := 4) O_is_tile_row bp_is_tile_row (hr.mono (by decide)) hx hE (ad_cons (ed_var 2 (pv 2)) ad_nil)).toB)) (sds_one (sd_raise rfl T_BadTile N_BadTile hr (takes_of rfl rfl rfl rfl) hE (ed_var 2 (pv 2)))) sds_nil)))
      (sds_one (sd_ret (ed_o (B := ⟨⟨W, T⟩, F, H⟩) (k := 8) O_are_overlapping bp_are_overlapping (hr.mono (by decide)) hx hE (ad_cons (ed_var 0 (pv 0)) (ad_cons (ed_var 1 (pv 1)) ad_nil))))))
theorem ok__law_is_pair_right {f : Addr} {fd : FuncData} (bt : Bt mg) (ct : Ct K mg) (hm : mg "_law_is_pair_right" = some (.ref f)) (F : Fun K "_law_is_pair_right" "_law_is_pair_right" (top 66) f fd) (O__law_do_overlap : OkD P w K mg base T "_law_do_overlap" (top 57) 2 ["_law_one", "_law_other"] sp__law_do_overlap) (O__law_meeting : OkD P w K mg base T "_law_meeting" (top 55) 3 ["_law_one", "_law_other"] sp__law_meeting) (O_do_overlap : OkD P w K mg base T "do_overlap" (top 43) 9 ["one", "other"] sp_do_overlap) (O_does_fit : OkD P w K mg base T "does_fit" (top 37) 8 ["one", "other"] sp_does_fit) (O__law_draw : OkD P w K mg base T "_law_draw" (top 48) 1 ["_law_deck_here", "_law_many"] spDraw) (O__law_is_parted : OkD P w K mg base T "_law_is_parted" (top 65) 5 ["_law_one", "_law_other"] sp__law_is_parted) : OkG P w K mg base T "_law_is_pair_right" (top 66) 10 ["_law_deck_here", "_law_near_here", "_law_far"] sp__law_is_pair_right := by
  refine ⟨f, fd, hm, F, okG (g := g__law_is_pair_right) F sc__law_is_pair_right len__law_is_pair_right (fun cdv A outer s H E W F R hG hr hE hp hx => ?_) law__law_is_pair_right⟩
  have nd := sc__law_is_pair_right.nd
  have hu65 := hu65_of hr
  exact (sds_cons (sd_set (i := 3) nd rfl (Or.inl rfl) (ed_tup (ad_cons (ed_o (B := ⟨⟨W, T⟩, F, H⟩) (k := 2) O__law_do_overlap bp__law_do_overlap (hr.mono (by decide)) hx hE (ad_cons (ed_var 1 (pv 1)) (ad_cons (ed_var 2 (pv 2)) ad_nil))) (ad_cons (ed_cmp (o_eq hr.units) (ed_o (B := ⟨⟨W, T⟩, F, H⟩) (k := 3) O__law_meeting bp__law_meeting (hr.mono (by decide)) hx hE (ad_cons (ed_var 1 (pv 1)) (ad_cons (ed_var 2 (pv 2)) ad_nil))).toB ed_int.toB (nomark _)) ad_nil))))
      (sds_cons (sd_setL (i := 4) nd rfl (Or.inl rfl) (fd_lst (ad_cons (ed_tup (ad_cons (ed_o (B := ⟨⟨W, T⟩, F, H⟩) (k := 9) O_do_overlap bp_do_overlap (hr.mono (by decide)) hx hE (ad_cons (ed_var 1 (pv 1)) (ad_cons (ed_var 2 (pv 2)) ad_nil))) (ad_cons (ed_o (B := ⟨⟨W, T⟩, F, H⟩) (k := 8) O_does_fit bp_does_fit (hr.mono (by decide)) hx hE (ad_cons (ed_var 1 (pv 1)) (ad_cons (ed_var 2 (pv 2)) ad_nil))) ad_nil))) ad_nil)))
      (sds_cons (sd_appE (pv 4) (ed_tup (ad_cons (ed_ok0 (B := ⟨⟨W, T⟩, F, H⟩) (k := 9) O_do_overlap (by decide) kb_do_overlap_0 (hr.mono (by decide)) hx hE (kd_cons (ed_var 1 (pv 1)) (kd_cons (ed_var 2 (pv 2)) kd_nil))) (ad_cons (ed_ok0 (B := ⟨⟨W, T⟩, F, H⟩) (k := 8) O_does_fit (by decide) kb_does_fit_0 (hr.mono (by decide)) hx hE (kd_cons (ed_var 1 (pv 1)) (kd_cons (ed_var 2 (pv 2)) kd_nil))) ad_nil))))
      (sds_cons (sd_if (wd_or (td_cmp (o_ne hr.units) (ed_callB (c_reprB ct.dig hG hu65) (by rfl) bt.b_repr nbRepr (abd_cons (bd_var 4 (pv 4)) abd_nil)).toB (ed_callB (c_reprB ct.dig hG hu65) (by rfl) bt.b_repr nbRepr (abd_cons (ed_bin o_mul (fd_lst (ad_cons (ed_var 3 (pv 3)) ad_nil)).toE.toB ed_int.toB).toB abd_nil)).toB (nomark _)) (wd_or1 (td_cmp (o_eq hr.units) (ed_var 3 (pv 3)).toB (ed_tup (ad_cons ed_bl (ad_cons ed_bl ad_nil))).toB (nomark _)))).t (sds_one (sd_ret ed_bl)) sds_nil)
      (sds_one (sd_ret (ed_or (ed_cmp o_gt (ed_o (B := ⟨⟨W, T⟩, F, H⟩) (k := 1) O__law_draw bp__law_draw (hr.mono (by decide)) hx hE (ad_cons (ed_var 0 (pv 0)) (ad_cons ed_int ad_nil))).toB ed_int.toB (nomark _)) (ed_one (ed_cmp (o_ne hr.units) (ed_o (B := ⟨⟨W, T⟩, F, H⟩) (k := 5) O__law_is_parted bp__law_is_parted (hr.mono (by decide)) hx hE (ad_cons (ed_var 1 (pv 1)) (ad_cons (ed_var 2 (pv 2)) ad_nil))).toB (ed_ix (ed_var 3 (pv 3)).toB ed_int.toB).toB (nomark _))))))))))
theorem ok__law_is_refusal_right {f : Addr} {c__law_is_refusal_right Pt__law_is_refusal_right : Addr} (tb__law_is_refusal_right : LamX.TabB base mg c__law_is_refusal_right Pt__law_is_refusal_right) (inT__law_is_refusal_right : (Pt__law_is_refusal_right, ql__law_is_refusal_right) ∈ T) (one__law_is_refusal_right : ∀ p ∈ T, p.1 = Pt__law_is_refusal_right → p.2 = ql__law_is_refusal_right) (bt : Bt mg) (ct : Ct K mg) (hm : mg "_law_is_refusal_right" = some (.ref f)) (F : FunC K "_law_is_refusal_right" (top 67) f (.ref c__law_is_refusal_right)) (O__law_bad : ∀ k, OkL P w K mg base T "_law_bad" (top 64) k ["_law_call", "_law_told", "_law_e"] "_law_call" sp__law_bad) (O__law_bent_tile : OkD P w K mg base T "_law_bent_tile" (top 60) 4 ["_law_deck_here", "_law_tile"] sp__law_bent_tile) (O__law_draw : OkD P w K mg base T "_law_draw" (top 48) 1 ["_law_deck_here", "_law_many"] spDraw) (O_do_overlap : OkD P w K mg base T "do_overlap" (top 43) 9 ["one", "other"] sp_do_overlap) (O__law_do_overlap : OkD P w K mg base T "_law_do_overlap" (top 57) 2 ["_law_one", "_law_other"] sp__law_do_overlap) (O__law_is_tile : OkD P w K mg base T "_law_is_tile" (top 58) 2 ["_law_thing"] sp__law_is_tile) : OkG P w K mg base T "_law_is_refusal_right" (top 67) 12 ["_law_deck_here", "_law_near_here", "_law_far"] sp__law_is_refusal_right := by
  refine okGc (g := g__law_is_refusal_right) hm F sc__law_is_refusal_right len__law_is_refusal_right (fun A outer s H E W F R hG hr hE hp hx => ?_) law__law_is_refusal_right
  have nd := sc__law_is_refusal_right.nd
  have hu65 := hu65_of hr
  exact (sds_cons (sd_set (i := 3) nd rfl (Or.inr rfl) (ed_if (td_cmp o_gt (ed_o (B := ⟨⟨W, T⟩, F, H⟩) (k := 1) O__law_draw bp__law_draw (hr.mono (by decide)) hx hE (ad_cons (ed_var 0 (pv 0)) (ad_cons ed_int ad_nil))).toB ed_int.toB (nomark _)) (ed_o (B := ⟨⟨W, T⟩, F, H⟩) (k := 4) O__law_bent_tile bp__law_bent_tile (hr.mono (by decide)) hx hE (ad_cons (ed_var 0 (pv 0)) (ad_cons (ed_var 1 (pv 1)) ad_nil))) (ed_var 1 (pv 1))))
      (sds_cons (sd_set (i := 4) nd rfl (Or.inr rfl) (ed_if (td_cmp o_gt (ed_o (B := ⟨⟨W, T⟩, F, H⟩) (k := 1) O__law_draw bp__law_draw (hr.mono (by decide)) hx hE (ad_cons (ed_var 0 (pv 0)) (ad_cons ed_int ad_nil))).toB ed_int.toB (nomark _)) (ed_o (B := ⟨⟨W, T⟩, F, H⟩) (k := 4) O__law_bent_tile bp__law_bent_tile (hr.mono (by decide)) hx hE (ad_cons (ed_var 0 (pv 0)) (ad_cons (ed_var 2 (pv 2)) ad_nil))) (ed_var 2 (pv 2))))
      (sds_cons (sd_par2 (i := 5) (j := 6) rfl nd rfl rfl (by decide) rfl rfl (ad_cons (fd_lc (own := [("_law_it", 9)]) rfl nd (pid_data (ed_tup (ad_cons (ed_var 3 (pv 3)) (ad_cons (ed_var 4 (pv 4)) ad_nil)))) (blkOk_by (own := [("_law_it", 9)]) (N := ["_law_deck_here", "_law_near_here", "_law_far", "_law_one", "_law_other", "_law_some", "_law_was", "_law_told", "_law_due", "_law_it"]) (sc := defScope (top 67)) (by decide +kernel)) (ct_name (by decide)) (fun _ _ _ _ _ => pg_name (i := 9) nd rfl (Or.inl rfl)) (fun _ _ _ _ _ => (tds_one (td_not (td_val (ed_o (B := ⟨⟨W, T⟩, F, H⟩) (k := 2) O__law_is_tile bp__law_is_tile (hr.mono (by decide)) passL FinE.none (ad_cons (ed_var 9 (pv 9)) ad_nil)).toB)))) (fun _ _ _ _ _ => (ed_var 9 (pv 9)))).toE (ad_cons (ed_callB (c_reprB ct.dig hG hu65) (by rfl) bt.b_repr nbRepr (abd_cons (ed_tup (ad_cons (ed_var 3 (pv 3)) (ad_cons (ed_var 4 (pv 4)) ad_nil))).toB abd_nil)) ad_nil)) (by rfl))
      (sds_cons (sd_set (i := 7) nd rfl (Or.inl rfl) (ed_lam (B := ⟨⟨W, T⟩, F, H⟩) (fl := fun R => (gCall sp_do_overlap W R (gCons (gVar 3) (gCons (gVar 4) gNil)))) (k := 9) (O__law_bad _) bp__law_bad tb__law_is_refusal_right rfl inT__law_is_refusal_right one__law_is_refusal_right (hr.mono (by decide)) (LamX.lamS_by (sc := defScope (top 67)) (by decide +kernel)) (fun A outer s H E f c' F' H' R hr hE hx => (ed_o (B := ⟨⟨W, T⟩, F', H'⟩) (k := 9) O_do_overlap bp_do_overlap (hr.mono (by decide)) hx hE (ad_cons (ed_var 3 (pv 3)) (ad_cons (ed_var 4 (pv 4)) ad_nil)))) rfl vis__law_bad rfl (fun _ _ _ _ _ => rfl)))
      (sds_cons (sd_set (i := 8) nd rfl (Or.inl rfl) (ed_if (td_cmp (o_neE hr.units) (ed_var 5 (pv 5)).toB (fd_lst ad_nil).toE.toB (nomark _)) (ed_tup (ad_cons ed_str (ad_cons (ed_ix (ed_var 5 (pv 5)).toB ed_int.toB) ad_nil))) (ed_tup (ad_cons ed_str (ad_cons (ed_o (B := ⟨⟨W, T⟩, F, H⟩) (k := 2) O__law_do_overlap bp__law_do_overlap (hr.mono (by decide)) hx hE (ad_cons (ed_var 3 (pv 3)) (ad_cons (ed_var 4 (pv 4)) ad_nil))) ad_nil)))))
      (sds_one (sd_ret (ed_and (ed_cmp (o_eq hr.units) (ed_callB (c_reprB ct.dig hG hu65) (by rfl) bt.b_repr nbRepr (abd_cons (ed_var 7 (pv 7)).toB abd_nil)).toB (ed_callB (c_reprB ct.dig hG hu65) (by rfl) bt.b_repr nbRepr (abd_cons (ed_var 8 (pv 8)).toB abd_nil)).toB (nomark _)) (ed_one (ed_cmp (o_eq hr.units) (ed_callB (c_reprB ct.dig hG hu65) (by rfl) bt.b_repr nbRepr (abd_cons (ed_tup (ad_cons (ed_var 3 (pv 3)) (ad_cons (ed_var 4 (pv 4)) ad_nil))).toB abd_nil)).toB (ed_var 6 (pv 6)).toB (nomark _)))))))))))
theorem ok_law {f fk : Addr} {fd fdk : FuncData} (bt : Bt mg) (ct : Ct K mg) (hmk : mg "_law_deck" = some (.ref fk)) (Fk : Fun K "_law_deck" "_law_deck" (top 47) fk fdk) (F : Fun K "law" "law" (top 68) f fd) (O__law_any_tile : OkD P w K mg base T "_law_any_tile" (top 62) 3 ["_law_deck_here"] sp__law_any_tile) (O__law_pick : OkD P w K mg base T "_law_pick" (top 49) 2 ["_law_deck_here", "_law_some"] sp__law_pick) (O__law_marked : OkD P w K mg base T "_law_marked" (top 54) 2 ["_law_tile"] sp__law_marked) (O__law_choices : OkD P w K mg base T "_law_choices" (top 56) 2 ["_law_edge", "_law_on_left"] sp__law_choices) (O__law_near : OkD P w K mg base T "_law_near" (top 63) 3 ["_law_deck_here", "_law_tile"] sp__law_near) (O__law_is_pair_right : OkG P w K mg base T "_law_is_pair_right" (top 66) 10 ["_law_deck_here", "_law_near_here", "_law_far"] sp__law_is_pair_right) (O_do_overlap : OkD P w K mg base T "do_overlap" (top 43) 9 ["one", "other"] sp_do_overlap) (O_does_fit : OkD P w K mg base T "does_fit" (top 37) 8 ["one", "other"] sp_does_fit) (O__law_draw : OkD P w K mg base T "_law_draw" (top 48) 1 ["_law_deck_here", "_law_many"] spDraw) (O__law_is_refusal_right : OkG P w K mg base T "_law_is_refusal_right" (top 67) 12 ["_law_deck_here", "_law_near_here", "_law_far"] sp__law_is_refusal_right) : FnG P w K mg base 13 f fd ["_law_script"] (spLaw K T) := by
  refine okLaw (g := fun W => g_law W fun _ => False) F sc_law (by decide) rfl (fun cdv A outer s H E hG hr hp hx => ⟨ps_set (i := 1) sc_law.nd rfl (Or.inl rfl) (pe_call (ok__law_deck bt Fk) (hr.mono (by decide)) rfl hmk Fk.kp (Fk.binds bp__law_deck) .nil hx (pa_cons (pv 0) pa_nil)), fun p H0 => ?_⟩) law_law
  have nd := sc_law.nd
  have W : WD := some p
  have hE : FinE ⟨some p, T⟩ ⟨K, mg⟩ hp0 H0 (fun _ => False) E := fun er z => z.elim
  have hu65 := hu65_of hr
  exact (sds_cons (sd_set (i := 2) nd rfl (Or.inl rfl) (ed_o (B := ⟨⟨some p, T⟩, hp0, H0⟩) (k := 3) O__law_any_tile bp__law_any_tile (hr.mono (by decide)) hx hE (ad_cons (ed_var 1 (pv 1)) ad_nil)))
      (sds_cons (sd_if (td_cmp (o_ne hr.units) (ed_callB (c_reprB ct.dig hG hu65) (by rfl) bt.b_repr nbRepr (abd_cons (ed_tup (ad_cons (ed_o (B := ⟨⟨some p, T⟩, hp0, H0⟩) (k := 9) O_do_overlap bp_do_overlap (hr.mono (by decide)) hx hE (ad_cons (ed_var 2 (pv 2)) (ad_cons (ed_var 2 (pv 2)) ad_nil))) (ad_cons (ed_o (B := ⟨⟨some p, T⟩, hp0, H0⟩) (k := 8) O_does_fit bp_does_fit (hr.mono (by decide)) hx hE (ad_cons (ed_var 2 (pv 2)) (ad_cons (ed_var 2 (pv 2)) ad_nil))) ad_nil))).toB abd_nil)).toB ed_str.toB (nomark _)) (sds_one (sd_ret ed_bl)) sds_nil)
      (sds_cons (sd_for hp rfl (pid_rng1 (by rfl) bt.b_range (ad_cons (ed_o (B := ⟨⟨some p, T⟩, hp0, H0⟩) (k := 2) O__law_pick bp__law_pick (hr.mono (by decide)) hx hE (ad_cons (ed_var 1 (pv 1)) (ad_cons (fd_lst (ad_cons ed_int (ad_cons ed_int (ad_cons ed_int ad_nil)))).toE ad_nil))) ad_nil)) (gd_name (pg_name (i := 3) nd rfl (Or.inl rfl))) (sds_cons (sd_set (i := 7) nd rfl (Or.inl rfl) (ed_if (td_cmp o_gt (ed_o (B := ⟨⟨some p, T⟩, hp0, H0⟩) (k := 1) O__law_draw bp__law_draw (hr.mono (by decide)) hx hE (ad_cons (ed_var 1 (pv 1)) (ad_cons ed_int ad_nil))).toB ed_int.toB (nomark _)) (ed_o (B := ⟨⟨some p, T⟩, hp0, H0⟩) (k := 3) O__law_near bp__law_near (hr.mono (by decide)) hx hE (ad_cons (ed_var 1 (pv 1)) (ad_cons (ed_var 2 (pv 2)) ad_nil))) (ed_o (B := ⟨⟨some p, T⟩, hp0, H0⟩) (k := 3) O__law_any_tile bp__law_any_tile (hr.mono (by decide)) hx hE (ad_cons (ed_var 1 (pv 1)) ad_nil))))
      (sds_cons (sd_if (wd_or (td_not (td_val (ed_g (B := ⟨⟨some p, T⟩, hp0, H0⟩) (k := 10) O__law_is_pair_right bp__law_is_pair_right hG (hr.mono (by decide)) hx hE (ad_cons (ed_var 1 (pv 1)) (ad_cons (ed_var 2 (pv 2)) (ad_cons (ed_var 7 (pv 7)) ad_nil)))).toB)) (wd_or1 (td_not (td_val (ed_g (B := ⟨⟨some p, T⟩, hp0, H0⟩) (k := 12) O__law_is_refusal_right bp__law_is_refusal_right hG (hr.mono (by decide)) hx hE (ad_cons (ed_var 1 (pv 1)) (ad_cons (ed_var 2 (pv 2)) (ad_cons (ed_var 7 (pv 7)) ad_nil)))).toB)))).t (sds_one (sd_ret ed_bl)) sds_nil)
      (sds_one (sd_set (i := 2) nd rfl (Or.inl rfl) (ed_o (B := ⟨⟨some p, T⟩, hp0, H0⟩) (k := 2) O__law_pick bp__law_pick (hr.mono (by decide)) hx hE (ad_cons (ed_var 1 (pv 1)) (ad_cons (fd_lst (ad_cons (ed_var 2 (pv 2)) (ad_cons (ed_var 7 (pv 7)) ad_nil))).toE ad_nil))))))))
      (sds_cons (sd_setT (is := [4, 5, 6]) rfl (na_cons (pg_name (i := 4) nd rfl (Or.inl rfl)) (na_cons (pg_name (i := 5) nd rfl (Or.inl rfl)) (na_cons (pg_name (i := 6) nd rfl (Or.inl rfl)) na_nil))) (ed_o (B := ⟨⟨some p, T⟩, hp0, H0⟩) (k := 2) O__law_pick bp__law_pick (hr.mono (by decide)) hx hE (ad_cons (ed_var 1 (pv 1)) (ad_cons (ed_o (B := ⟨⟨some p, T⟩, hp0, H0⟩) (k := 2) O__law_marked bp__law_marked (hr.mono (by decide)) hx hE (ad_cons (ed_var 2 (pv 2)) ad_nil)) ad_nil))))
      (sds_cons (sd_for hp rfl (pid_data (ed_bin o_add (ed_o (B := ⟨⟨some p, T⟩, hp0, H0⟩) (k := 2) O__law_choices bp__law_choices (hr.mono (by decide)) hx hE (ad_cons (ed_var 4 (pv 4)) (ad_cons (ed_not (ed_var 6 (pv 6)).toB) ad_nil))).toB (ed_o (B := ⟨⟨some p, T⟩, hp0, H0⟩) (k := 2) O__law_choices bp__law_choices (hr.mono (by decide)) hx hE (ad_cons (ed_var 4 (pv 4)) (ad_cons (ed_var 6 (pv 6)) ad_nil))).toB)) (gd_name (pg_name (i := 7) nd rfl (Or.inl rfl))) (sds_one (sd_if (td_not (td_val (ed_g (B := ⟨⟨some p, T⟩, hp0, H0⟩) (k := 10) O__law_is_pair_right bp__law_is_pair_right hG (hr.mono (by decide)) hx hE (ad_cons (ed_var 1 (pv 1)) (ad_cons (ed_var 2 (pv 2)) (ad_cons (ed_var 7 (pv 7)) ad_nil)))).toB)) (sds_one (sd_ret ed_bl)) sds_nil)))
      (sds_one (sd_ret ed_bl)))))))
end
theorem all_ok {l : PySem.W.OpenLaw} {w : World} {K : PySem.W.Frag} {h : Heap} {mg : Str → Option Value} {fa : Addr} (X : K.In h) (G : h.Ns mainGlobals mg) (hfa : mg "law" = some (.ref fa))
    {f7 f8 f9 f10 f11 f12 f13 f14 f15 f16 f17 f19 f20 f21 f22 f23 f25 f26 f27 f29 f30 f31 f32 f33 f34 f35 f36 f37 f39 f40 f41 f43 f45 f47 f48 f49 f50 f51 f52 f53 f54 f55 f56 f57 f58 f59 f60 f61 f62 f63 f64 f65 f66 f67 f68 C_BadNumber C_BadRow C_BadTile fI_BadNumber fI_BadRow fI_BadTile cc67 Pt67 : Addr} {od7 an7 od8 an8 od9 an9 od10 an10 od11 an11 od12 an12 od13 an13 od14 an14 od15 an15 od16 an16 od17 an17 od19 an19 od20 an20 od21 an21 od22 an22 od23 an23 od25 an25 od26 an26 od27 an27 od29 an29 od30 an30 od31 an31 od32 an32 od33 an33 od34 an34 od35 an35 od36 an36 od37 an37 od39 an39 od40 an40 od41 an41 od43 an43 od45 an45 od47 an47 od48 an48 od49 an49 od50 an50 od51 an51 od52 an52 od53 an53 od54 an54 od55 an55 od56 an56 od57 an57 od58 an58 od59 an59 od60 an60 od61 an61 od62 an62 od63 an63 od64 an64 od65 an65 od66 an66 od67 an67 od68 an68 od_BadNumber an_BadNumber od_BadRow an_BadRow od_BadTile an_BadTile : Option Addr} {sl7 sl8 sl9 sl10 sl11 sl12 sl13 sl14 sl15 sl16 sl17 sl19 sl20 sl21 sl22 sl23 sl25 sl26 sl27 sl29 sl30 sl31 sl32 sl33 sl34 sl35 sl36 sl37 sl39 sl40 sl41 sl43 sl45 sl47 sl48 sl49 sl50 sl51 sl52 sl53 sl54 sl55 sl56 sl57 sl58 sl59 sl60 sl61 sl62 sl63 sl64 sl65 sl66 sl67 sl68 sl_BadNumber sl_BadRow sl_BadTile ts67 : Array (Option Value)} {tv67 : Array Value} {td67 : Option Addr} {tc67 : Value} {oc7 kV7 dc7 pm7 cd7 ct7 oc8 kV8 dc8 pm8 cd8 ct8 oc9 kV9 dc9 pm9 cd9 ct9 oc10 kV10 dc10 pm10 cd10 ct10 oc11 kV11 dc11 pm11 cd11 ct11 oc12 kV12 dc12 pm12 cd12 ct12 oc13 kV13 dc13 pm13 cd13 ct13 oc14 kV14 dc14 pm14 cd14 ct14 oc15 kV15 dc15 pm15 cd15 ct15 oc16 kV16 dc16 pm16 cd16 ct16 oc17 kV17 dc17 pm17 cd17 ct17 oc19 kV19 dc19 pm19 cd19 ct19 oc20 kV20 dc20 pm20 cd20 ct20 oc21 kV21 dc21 pm21 cd21 ct21 oc22 kV22 dc22 pm22 cd22 ct22 oc23 kV23 dc23 pm23 cd23 ct23 oc25 kV25 dc25 pm25 cd25 ct25 oc26 kV26 dc26 pm26 cd26 ct26 oc27 kV27 dc27 pm27 cd27 ct27 oc29 kV29 dc29 pm29 cd29 ct29 oc30 kV30 dc30 pm30 cd30 ct30 oc31 kV31 dc31 pm31 cd31 ct31 oc32 kV32 dc32 pm32 cd32 ct32 oc33 kV33 dc33 pm33 cd33 ct33 oc34 kV34 dc34 pm34 cd34 ct34 oc35 kV35 dc35 pm35 cd35 ct35 oc36 kV36 dc36 pm36 cd36 ct36 oc37 kV37 dc37 pm37 cd37 ct37 oc39 kV39 dc39 pm39 cd39 ct39 oc40 kV40 dc40 pm40 cd40 ct40 oc41 kV41 dc41 pm41 cd41 ct41 oc43 kV43 dc43 pm43 cd43 ct43 oc45 kV45 dc45 pm45 cd45 ct45 oc47 kV47 dc47 pm47 cd47 ct47 oc48 kV48 dc48 pm48 cd48 ct48 oc49 kV49 dc49 pm49 cd49 ct49 oc50 kV50 dc50 pm50 cd50 ct50 oc51 kV51 dc51 pm51 cd51 ct51 oc52 kV52 dc52 pm52 cd52 ct52 oc53 kV53 dc53 pm53 cd53 ct53 oc54 kV54 dc54 pm54 cd54 ct54 oc55 kV55 dc55 pm55 cd55 ct55 oc56 kV56 dc56 pm56 cd56 ct56 oc57 kV57 dc57 pm57 cd57 ct57 oc58 kV58 dc58 pm58 cd58 ct58 oc59 kV59 dc59 pm59 cd59 ct59 oc60 kV60 dc60 pm60 cd60 ct60 oc61 kV61 dc61 pm61 cd61 ct61 oc62 kV62 dc62 pm62 cd62 ct62 oc63 kV63 dc63 pm63 cd63 ct63 oc64 kV64 dc64 pm64 cd64 ct64 oc65 kV65 dc65 pm65 cd65 ct65 oc66 kV66 dc66 pm66 cd66 ct66 oc67 kV67 dc67 pm67  ct67 oc68 kV68 dc68 pm68 cd68 ct68 oc_BadNumber kV_BadNumber dc_BadNumber pm_BadNumber cd_BadNumber ct_BadNumber oc_BadRow kV_BadRow dc_BadRow pm_BadRow cd_BadRow ct_BadRow oc_BadTile kV_BadTile dc_BadTile pm_BadTile cd_BadTile ct_BadTile : Value}
    {DV52 : Addr} {DDV52 : Option Addr} {DSV52 : Array (Option Value)} {DCV52 : Value} {y1 : Tok} {DNV52 : Nat}
    (a7 : PySem.W.nsIn K mainGlobals "is_integer" = some (some (.ref f7))) (l7 : K.lookup f7 = some ⟨oc7, od7, .func (PySem.W.fnOf "is_integer" "is_integer" (defArgs (top 7)) (defBody (top 7)) (defScope (top 7)) .none kV7 dc7 pm7 an7 cd7 ct7), sl7⟩) (c7 : PySem.W.codeIn K cd7 "is_integer" = true) (k7 : PySem.W.keepIn K (.ref f7) = true) (a8 : PySem.W.nsIn K mainGlobals "is_number" = some (some (.ref f8))) (l8 : K.lookup f8 = some ⟨oc8, od8, .func (PySem.W.fnOf "is_number" "is_number" (defArgs (top 8)) (defBody (top 8)) (defScope (top 8)) .none kV8 dc8 pm8 an8 cd8 ct8), sl8⟩) (c8 : PySem.W.codeIn K cd8 "is_number" = true) (k8 : PySem.W.keepIn K (.ref f8) = true) (a9 : PySem.W.nsIn K mainGlobals "normal" = some (some (.ref f9))) (l9 : K.lookup f9 = some ⟨oc9, od9, .func (PySem.W.fnOf "normal" "normal" (defArgs (top 9)) (defBody (top 9)) (defScope (top 9)) .none kV9 dc9 pm9 an9 cd9 ct9), sl9⟩) (c9 : PySem.W.codeIn K cd9 "normal" = true) (k9 : PySem.W.keepIn K (.ref f9) = true) (a10 : PySem.W.nsIn K mainGlobals "pair_sign" = some (some (.ref f10))) (l10 : K.lookup f10 = some ⟨oc10, od10, .func (PySem.W.fnOf "pair_sign" "pair_sign" (defArgs (top 10)) (defBody (top 10)) (defScope (top 10)) .none kV10 dc10 pm10 an10 cd10 ct10), sl10⟩) (c10 : PySem.W.codeIn K cd10 "pair_sign" = true) (k10 : PySem.W.keepIn K (.ref f10) = true) (a11 : PySem.W.nsIn K mainGlobals "sign_of" = some (some (.ref f11))) (l11 : K.lookup f11 = some ⟨oc11, od11, .func (PySem.W.fnOf "sign_of" "sign_of" (defArgs (top 11)) (defBody (top 11)) (defScope (top 11)) .none kV11 dc11 pm11 an11 cd11 ct11), sl11⟩) (c11 : PySem.W.codeIn K cd11 "sign_of" = true) (k11 : PySem.W.keepIn K (.ref f11) = true) (a12 : PySem.W.nsIn K mainGlobals "compared" = some (some (.ref f12))) (l12 : K.lookup f12 = some ⟨oc12, od12, .func (PySem.W.fnOf "compared" "compared" (defArgs (top 12)) (defBody (top 12)) (defScope (top 12)) .none kV12 dc12 pm12 an12 cd12 ct12), sl12⟩) (c12 : PySem.W.codeIn K cd12 "compared" = true) (k12 : PySem.W.keepIn K (.ref f12) = true) (a13 : PySem.W.nsIn K mainGlobals "negative" = some (some (.ref f13))) (l13 : K.lookup f13 = some ⟨oc13, od13, .func (PySem.W.fnOf "negative" "negative" (defArgs (top 13)) (defBody (top 13)) (defScope (top 13)) .none kV13 dc13 pm13 an13 cd13 ct13), sl13⟩) (c13 : PySem.W.codeIn K cd13 "negative" = true) (k13 : PySem.W.keepIn K (.ref f13) = true) (a14 : PySem.W.nsIn K mainGlobals "added" = some (some (.ref f14))) (l14 : K.lookup f14 = some ⟨oc14, od14, .func (PySem.W.fnOf "added" "added" (defArgs (top 14)) (defBody (top 14)) (defScope (top 14)) .none kV14 dc14 pm14 an14 cd14 ct14), sl14⟩) (c14 : PySem.W.codeIn K cd14 "added" = true) (k14 : PySem.W.keepIn K (.ref f14) = true) (a15 : PySem.W.nsIn K mainGlobals "taken" = some (some (.ref f15))) (l15 : K.lookup f15 = some ⟨oc15, od15, .func (PySem.W.fnOf "taken" "taken" (defArgs (top 15)) (defBody (top 15)) (defScope (top 15)) .none kV15 dc15 pm15 an15 cd15 ct15), sl15⟩) (c15 : PySem.W.codeIn K cd15 "taken" = true) (k15 : PySem.W.keepIn K (.ref f15) = true) (a16 : PySem.W.nsIn K mainGlobals "greatest" = some (some (.ref f16))) (l16 : K.lookup f16 = some ⟨oc16, od16, .func (PySem.W.fnOf "greatest" "greatest" (defArgs (top 16)) (defBody (top 16)) (defScope (top 16)) .none kV16 dc16 pm16 an16 cd16 ct16), sl16⟩) (c16 : PySem.W.codeIn K cd16 "greatest" = true) (k16 : PySem.W.keepIn K (.ref f16) = true) (a17 : PySem.W.nsIn K mainGlobals "least" = some (some (.ref f17))) (l17 : K.lookup f17 = some ⟨oc17, od17, .func (PySem.W.fnOf "least" "least" (defArgs (top 17)) (defBody (top 17)) (defScope (top 17)) .none kV17 dc17 pm17 an17 cd17 ct17), sl17⟩) (c17 : PySem.W.codeIn K cd17 "least" = true) (k17 : PySem.W.keepIn K (.ref f17) = true) (a19 : PySem.W.nsIn K mainGlobals "is_direction" = some (some (.ref f19))) (l19 : K.lookup f19 = some ⟨oc19, od19, .func (PySem.W.fnOf "is_direction" "is_direction" (defArgs (top 19)) (defBody (top 19)) (defScope (top 19)) .none kV19 dc19 pm19 an19 cd19 ct19), sl19⟩) (c19 : PySem.W.codeIn K cd19 "is_direction" = true) (k19 : PySem.W.keepIn K (.ref f19) = true) (a20 : PySem.W.nsIn K mainGlobals "is_five" = some (some (.ref f20))) (l20 : K.lookup f20 = some ⟨oc20, od20, .func (PySem.W.fnOf "is_five" "is_five" (defArgs (top 20)) (defBody (top 20)) (defScope (top 20)) .none kV20 dc20 pm20 an20 cd20 ct20), sl20⟩) (c20 : PySem.W.codeIn K cd20 "is_five" = true) (k20 : PySem.W.keepIn K (.ref f20) = true) (a21 : PySem.W.nsIn K mainGlobals "is_corner_five" = some (some (.ref f21))) (l21 : K.lookup f21 = some ⟨oc21, od21, .func (PySem.W.fnOf "is_corner_five" "is_corner_five" (defArgs (top 21)) (defBody (top 21)) (defScope (top 21)) .none kV21 dc21 pm21 an21 cd21 ct21), sl21⟩) (c21 : PySem.W.codeIn K cd21 "is_corner_five" = true) (k21 : PySem.W.keepIn K (.ref f21) = true) (a22 : PySem.W.nsIn K mainGlobals "raised" = some (some (.ref f22))) (l22 : K.lookup f22 = some ⟨oc22, od22, .func (PySem.W.fnOf "raised" "raised" (defArgs (top 22)) (defBody (top 22)) (defScope (top 22)) .none kV22 dc22 pm22 an22 cd22 ct22), sl22⟩) (c22 : PySem.W.codeIn K cd22 "raised" = true) (k22 : PySem.W.keepIn K (.ref f22) = true) (a23 : PySem.W.nsIn K mainGlobals "are_near" = some (some (.ref f23))) (l23 : K.lookup f23 = some ⟨oc23, od23, .func (PySem.W.fnOf "are_near" "are_near" (defArgs (top 23)) (defBody (top 23)) (defScope (top 23)) .none kV23 dc23 pm23 an23 cd23 ct23), sl23⟩) (c23 : PySem.W.codeIn K cd23 "are_near" = true) (k23 : PySem.W.keepIn K (.ref f23) = true) (a25 : PySem.W.nsIn K mainGlobals "need_numbers" = some (some (.ref f25))) (l25 : K.lookup f25 = some ⟨oc25, od25, .func (PySem.W.fnOf "need_numbers" "need_numbers" (defArgs (top 25)) (defBody (top 25)) (defScope (top 25)) .none kV25 dc25 pm25 an25 cd25 ct25), sl25⟩) (c25 : PySem.W.codeIn K cd25 "need_numbers" = true) (k25 : PySem.W.keepIn K (.ref f25) = true) (a26 : PySem.W.nsIn K mainGlobals "minus" = some (some (.ref f26))) (l26 : K.lookup f26 = some ⟨oc26, od26, .func (PySem.W.fnOf "minus" "minus" (defArgs (top 26)) (defBody (top 26)) (defScope (top 26)) .none kV26 dc26 pm26 an26 cd26 ct26), sl26⟩) (c26 : PySem.W.codeIn K cd26 "minus" = true) (k26 : PySem.W.keepIn K (.ref f26) = true) (a27 : PySem.W.nsIn K mainGlobals "sign" = some (some (.ref f27))) (l27 : K.lookup f27 = some ⟨oc27, od27, .func (PySem.W.fnOf "sign" "sign" (defArgs (top 27)) (defBody (top 27)) (defScope (top 27)) .none kV27 dc27 pm27 an27 cd27 ct27), sl27⟩) (c27 : PySem.W.codeIn K cd27 "sign" = true) (k27 : PySem.W.keepIn K (.ref f27) = true) (a29 : PySem.W.nsIn K mainGlobals "is_tile_row" = some (some (.ref f29))) (l29 : K.lookup f29 = some ⟨oc29, od29, .func (PySem.W.fnOf "is_tile_row" "is_tile_row" (defArgs (top 29)) (defBody (top 29)) (defScope (top 29)) .none kV29 dc29 pm29 an29 cd29 ct29), sl29⟩) (c29 : PySem.W.codeIn K cd29 "is_tile_row" = true) (k29 : PySem.W.keepIn K (.ref f29) = true) (a30 : PySem.W.nsIn K mainGlobals "need_tile" = some (some (.ref f30))) (l30 : K.lookup f30 = some ⟨oc30, od30, .func (PySem.W.fnOf "need_tile" "need_tile" (defArgs (top 30)) (defBody (top 30)) (defScope (top 30)) .none kV30 dc30 pm30 an30 cd30 ct30), sl30⟩) (c30 : PySem.W.codeIn K cd30 "need_tile" = true) (k30 : PySem.W.keepIn K (.ref f30) = true) (a31 : PySem.W.nsIn K mainGlobals "corners_of" = some (some (.ref f31))) (l31 : K.lookup f31 = some ⟨oc31, od31, .func (PySem.W.fnOf "corners_of" "corners_of" (defArgs (top 31)) (defBody (top 31)) (defScope (top 31)) .none kV31 dc31 pm31 an31 cd31 ct31), sl31⟩) (c31 : PySem.W.codeIn K cd31 "corners_of" = true) (k31 : PySem.W.keepIn K (.ref f31) = true) (a32 : PySem.W.nsIn K mainGlobals "edges_of" = some (some (.ref f32))) (l32 : K.lookup f32 = some ⟨oc32, od32, .func (PySem.W.fnOf "edges_of" "edges_of" (defArgs (top 32)) (defBody (top 32)) (defScope (top 32)) .none kV32 dc32 pm32 an32 cd32 ct32), sl32⟩) (c32 : PySem.W.codeIn K cd32 "edges_of" = true) (k32 : PySem.W.keepIn K (.ref f32) = true) (a33 : PySem.W.nsIn K mainGlobals "is_thick" = some (some (.ref f33))) (l33 : K.lookup f33 = some ⟨oc33, od33, .func (PySem.W.fnOf "is_thick" "is_thick" (defArgs (top 33)) (defBody (top 33)) (defScope (top 33)) .none kV33 dc33 pm33 an33 cd33 ct33), sl33⟩) (c33 : PySem.W.codeIn K cd33 "is_thick" = true) (k33 : PySem.W.keepIn K (.ref f33) = true) (a34 : PySem.W.nsIn K mainGlobals "is_low" = some (some (.ref f34))) (l34 : K.lookup f34 = some ⟨oc34, od34, .func (PySem.W.fnOf "is_low" "is_low" (defArgs (top 34)) (defBody (top 34)) (defScope (top 34)) .none kV34 dc34 pm34 an34 cd34 ct34), sl34⟩) (c34 : PySem.W.codeIn K cd34 "is_low" = true) (k34 : PySem.W.keepIn K (.ref f34) = true) (a35 : PySem.W.nsIn K mainGlobals "marks_of" = some (some (.ref f35))) (l35 : K.lookup f35 = some ⟨oc35, od35, .func (PySem.W.fnOf "marks_of" "marks_of" (defArgs (top 35)) (defBody (top 35)) (defScope (top 35)) .none kV35 dc35 pm35 an35 cd35 ct35), sl35⟩) (c35 : PySem.W.codeIn K cd35 "marks_of" = true) (k35 : PySem.W.keepIn K (.ref f35) = true) (a36 : PySem.W.nsIn K mainGlobals "lies_left" = some (some (.ref f36))) (l36 : K.lookup f36 = some ⟨oc36, od36, .func (PySem.W.fnOf "lies_left" "lies_left" (defArgs (top 36)) (defBody (top 36)) (defScope (top 36)) .none kV36 dc36 pm36 an36 cd36 ct36), sl36⟩) (c36 : PySem.W.codeIn K cd36 "lies_left" = true) (k36 : PySem.W.keepIn K (.ref f36) = true) (a37 : PySem.W.nsIn K mainGlobals "does_fit" = some (some (.ref f37))) (l37 : K.lookup f37 = some ⟨oc37, od37, .func (PySem.W.fnOf "does_fit" "does_fit" (defArgs (top 37)) (defBody (top 37)) (defScope (top 37)) .none kV37 dc37 pm37 an37 cd37 ct37), sl37⟩) (c37 : PySem.W.codeIn K cd37 "does_fit" = true) (k37 : PySem.W.keepIn K (.ref f37) = true) (a39 : PySem.W.nsIn K mainGlobals "beside" = some (some (.ref f39))) (l39 : K.lookup f39 = some ⟨oc39, od39, .func (PySem.W.fnOf "beside" "beside" (defArgs (top 39)) (defBody (top 39)) (defScope (top 39)) .none kV39 dc39 pm39 an39 cd39 ct39), sl39⟩) (c39 : PySem.W.codeIn K cd39 "beside" = true) (k39 : PySem.W.keepIn K (.ref f39) = true) (a40 : PySem.W.nsIn K mainGlobals "is_parted" = some (some (.ref f40))) (l40 : K.lookup f40 = some ⟨oc40, od40, .func (PySem.W.fnOf "is_parted" "is_parted" (defArgs (top 40)) (defBody (top 40)) (defScope (top 40)) .none kV40 dc40 pm40 an40 cd40 ct40), sl40⟩) (c40 : PySem.W.codeIn K cd40 "is_parted" = true) (k40 : PySem.W.keepIn K (.ref f40) = true) (a41 : PySem.W.nsIn K mainGlobals "are_overlapping" = some (some (.ref f41))) (l41 : K.lookup f41 = some ⟨oc41, od41, .func (PySem.W.fnOf "are_overlapping" "are_overlapping" (defArgs (top 41)) (defBody (top 41)) (defScope (top 41)) .none kV41 dc41 pm41 an41 cd41 ct41), sl41⟩) (c41 : PySem.W.codeIn K cd41 "are_overlapping" = true) (k41 : PySem.W.keepIn K (.ref f41) = true) (a43 : PySem.W.nsIn K mainGlobals "do_overlap" = some (some (.ref f43))) (l43 : K.lookup f43 = some ⟨oc43, od43, .func (PySem.W.fnOf "do_overlap" "do_overlap" (defArgs (top 43)) (defBody (top 43)) (defScope (top 43)) .none kV43 dc43 pm43 an43 cd43 ct43), sl43⟩) (c43 : PySem.W.codeIn K cd43 "do_overlap" = true) (k43 : PySem.W.keepIn K (.ref f43) = true) (a45 : PySem.W.nsIn K mainGlobals "point_of" = some (some (.ref f45))) (l45 : K.lookup f45 = some ⟨oc45, od45, .func (PySem.W.fnOf "point_of" "point_of" (defArgs (top 45)) (defBody (top 45)) (defScope (top 45)) .none kV45 dc45 pm45 an45 cd45 ct45), sl45⟩) (c45 : PySem.W.codeIn K cd45 "point_of" = true) (k45 : PySem.W.keepIn K (.ref f45) = true) (a47 : PySem.W.nsIn K mainGlobals "_law_deck" = some (some (.ref f47))) (l47 : K.lookup f47 = some ⟨oc47, od47, .func (PySem.W.fnOf "_law_deck" "_law_deck" (defArgs (top 47)) (defBody (top 47)) (defScope (top 47)) .none kV47 dc47 pm47 an47 cd47 ct47), sl47⟩) (c47 : PySem.W.codeIn K cd47 "_law_deck" = true) (k47 : PySem.W.keepIn K (.ref f47) = true) (a48 : PySem.W.nsIn K mainGlobals "_law_draw" = some (some (.ref f48))) (l48 : K.lookup f48 = some ⟨oc48, od48, .func (PySem.W.fnOf "_law_draw" "_law_draw" (defArgs (top 48)) (defBody (top 48)) (defScope (top 48)) .none kV48 dc48 pm48 an48 cd48 ct48), sl48⟩) (c48 : PySem.W.codeIn K cd48 "_law_draw" = true) (k48 : PySem.W.keepIn K (.ref f48) = true) (a49 : PySem.W.nsIn K mainGlobals "_law_pick" = some (some (.ref f49))) (l49 : K.lookup f49 = some ⟨oc49, od49, .func (PySem.W.fnOf "_law_pick" "_law_pick" (defArgs (top 49)) (defBody (top 49)) (defScope (top 49)) .none kV49 dc49 pm49 an49 cd49 ct49), sl49⟩) (c49 : PySem.W.codeIn K cd49 "_law_pick" = true) (k49 : PySem.W.keepIn K (.ref f49) = true) (a50 : PySem.W.nsIn K mainGlobals "_law_sign" = some (some (.ref f50))) (l50 : K.lookup f50 = some ⟨oc50, od50, .func (PySem.W.fnOf "_law_sign" "_law_sign" (defArgs (top 50)) (defBody (top 50)) (defScope (top 50)) .none kV50 dc50 pm50 an50 cd50 ct50), sl50⟩) (c50 : PySem.W.codeIn K cd50 "_law_sign" = true) (k50 : PySem.W.keepIn K (.ref f50) = true) (a51 : PySem.W.nsIn K mainGlobals "_law_is_integer" = some (some (.ref f51))) (l51 : K.lookup f51 = some ⟨oc51, od51, .func (PySem.W.fnOf "_law_is_integer" "_law_is_integer" (defArgs (top 51)) (defBody (top 51)) (defScope (top 51)) .none kV51 dc51 pm51 an51 cd51 ct51), sl51⟩) (c51 : PySem.W.codeIn K cd51 "_law_is_integer" = true) (k51 : PySem.W.keepIn K (.ref f51) = true) (a52 : PySem.W.nsIn K mainGlobals "_law_up" = some (some (.ref f52))) (l52 : K.lookup f52 = some ⟨oc52, od52, .func (PySem.W.fnOf "_law_up" "_law_up" (defArgs (top 52)) (defBody (top 52)) (defScope (top 52)) (.ref DV52) kV52 dc52 pm52 an52 cd52 ct52), sl52⟩) (c52 : PySem.W.codeIn K cd52 "_law_up" = true) (k52 : PySem.W.keepIn K (.ref f52) = true) (a53 : PySem.W.nsIn K mainGlobals "_law_corners" = some (some (.ref f53))) (l53 : K.lookup f53 = some ⟨oc53, od53, .func (PySem.W.fnOf "_law_corners" "_law_corners" (defArgs (top 53)) (defBody (top 53)) (defScope (top 53)) .none kV53 dc53 pm53 an53 cd53 ct53), sl53⟩) (c53 : PySem.W.codeIn K cd53 "_law_corners" = true) (k53 : PySem.W.keepIn K (.ref f53) = true) (a54 : PySem.W.nsIn K mainGlobals "_law_marked" = some (some (.ref f54))) (l54 : K.lookup f54 = some ⟨oc54, od54, .func (PySem.W.fnOf "_law_marked" "_law_marked" (defArgs (top 54)) (defBody (top 54)) (defScope (top 54)) .none kV54 dc54 pm54 an54 cd54 ct54), sl54⟩) (c54 : PySem.W.codeIn K cd54 "_law_marked" = true) (k54 : PySem.W.keepIn K (.ref f54) = true) (a55 : PySem.W.nsIn K mainGlobals "_law_meeting" = some (some (.ref f55))) (l55 : K.lookup f55 = some ⟨oc55, od55, .func (PySem.W.fnOf "_law_meeting" "_law_meeting" (defArgs (top 55)) (defBody (top 55)) (defScope (top 55)) .none kV55 dc55 pm55 an55 cd55 ct55), sl55⟩) (c55 : PySem.W.codeIn K cd55 "_law_meeting" = true) (k55 : PySem.W.keepIn K (.ref f55) = true) (a56 : PySem.W.nsIn K mainGlobals "_law_choices" = some (some (.ref f56))) (l56 : K.lookup f56 = some ⟨oc56, od56, .func (PySem.W.fnOf "_law_choices" "_law_choices" (defArgs (top 56)) (defBody (top 56)) (defScope (top 56)) .none kV56 dc56 pm56 an56 cd56 ct56), sl56⟩) (c56 : PySem.W.codeIn K cd56 "_law_choices" = true) (k56 : PySem.W.keepIn K (.ref f56) = true) (a57 : PySem.W.nsIn K mainGlobals "_law_do_overlap" = some (some (.ref f57))) (l57 : K.lookup f57 = some ⟨oc57, od57, .func (PySem.W.fnOf "_law_do_overlap" "_law_do_overlap" (defArgs (top 57)) (defBody (top 57)) (defScope (top 57)) .none kV57 dc57 pm57 an57 cd57 ct57), sl57⟩) (c57 : PySem.W.codeIn K cd57 "_law_do_overlap" = true) (k57 : PySem.W.keepIn K (.ref f57) = true) (a58 : PySem.W.nsIn K mainGlobals "_law_is_tile" = some (some (.ref f58))) (l58 : K.lookup f58 = some ⟨oc58, od58, .func (PySem.W.fnOf "_law_is_tile" "_law_is_tile" (defArgs (top 58)) (defBody (top 58)) (defScope (top 58)) .none kV58 dc58 pm58 an58 cd58 ct58), sl58⟩) (c58 : PySem.W.codeIn K cd58 "_law_is_tile" = true) (k58 : PySem.W.keepIn K (.ref f58) = true) (a59 : PySem.W.nsIn K mainGlobals "_law_odd" = some (some (.ref f59))) (l59 : K.lookup f59 = some ⟨oc59, od59, .func (PySem.W.fnOf "_law_odd" "_law_odd" (defArgs (top 59)) (defBody (top 59)) (defScope (top 59)) .none kV59 dc59 pm59 an59 cd59 ct59), sl59⟩) (c59 : PySem.W.codeIn K cd59 "_law_odd" = true) (k59 : PySem.W.keepIn K (.ref f59) = true) (a60 : PySem.W.nsIn K mainGlobals "_law_bent_tile" = some (some (.ref f60))) (l60 : K.lookup f60 = some ⟨oc60, od60, .func (PySem.W.fnOf "_law_bent_tile" "_law_bent_tile" (defArgs (top 60)) (defBody (top 60)) (defScope (top 60)) .none kV60 dc60 pm60 an60 cd60 ct60), sl60⟩) (c60 : PySem.W.codeIn K cd60 "_law_bent_tile" = true) (k60 : PySem.W.keepIn K (.ref f60) = true) (a61 : PySem.W.nsIn K mainGlobals "_law_great" = some (some (.ref f61))) (l61 : K.lookup f61 = some ⟨oc61, od61, .func (PySem.W.fnOf "_law_great" "_law_great" (defArgs (top 61)) (defBody (top 61)) (defScope (top 61)) .none kV61 dc61 pm61 an61 cd61 ct61), sl61⟩) (c61 : PySem.W.codeIn K cd61 "_law_great" = true) (k61 : PySem.W.keepIn K (.ref f61) = true) (a62 : PySem.W.nsIn K mainGlobals "_law_any_tile" = some (some (.ref f62))) (l62 : K.lookup f62 = some ⟨oc62, od62, .func (PySem.W.fnOf "_law_any_tile" "_law_any_tile" (defArgs (top 62)) (defBody (top 62)) (defScope (top 62)) .none kV62 dc62 pm62 an62 cd62 ct62), sl62⟩) (c62 : PySem.W.codeIn K cd62 "_law_any_tile" = true) (k62 : PySem.W.keepIn K (.ref f62) = true) (a63 : PySem.W.nsIn K mainGlobals "_law_near" = some (some (.ref f63))) (l63 : K.lookup f63 = some ⟨oc63, od63, .func (PySem.W.fnOf "_law_near" "_law_near" (defArgs (top 63)) (defBody (top 63)) (defScope (top 63)) .none kV63 dc63 pm63 an63 cd63 ct63), sl63⟩) (c63 : PySem.W.codeIn K cd63 "_law_near" = true) (k63 : PySem.W.keepIn K (.ref f63) = true) (a64 : PySem.W.nsIn K mainGlobals "_law_bad" = some (some (.ref f64))) (l64 : K.lookup f64 = some ⟨oc64, od64, .func (PySem.W.fnOf "_law_bad" "_law_bad" (defArgs (top 64)) (defBody (top 64)) (defScope (top 64)) .none kV64 dc64 pm64 an64 cd64 ct64), sl64⟩) (c64 : PySem.W.codeIn K cd64 "_law_bad" = true) (k64 : PySem.W.keepIn K (.ref f64) = true) (a65 : PySem.W.nsIn K mainGlobals "_law_is_parted" = some (some (.ref f65))) (l65 : K.lookup f65 = some ⟨oc65, od65, .func (PySem.W.fnOf "_law_is_parted" "_law_is_parted" (defArgs (top 65)) (defBody (top 65)) (defScope (top 65)) .none kV65 dc65 pm65 an65 cd65 ct65), sl65⟩) (c65 : PySem.W.codeIn K cd65 "_law_is_parted" = true) (k65 : PySem.W.keepIn K (.ref f65) = true) (a66 : PySem.W.nsIn K mainGlobals "_law_is_pair_right" = some (some (.ref f66))) (l66 : K.lookup f66 = some ⟨oc66, od66, .func (PySem.W.fnOf "_law_is_pair_right" "_law_is_pair_right" (defArgs (top 66)) (defBody (top 66)) (defScope (top 66)) .none kV66 dc66 pm66 an66 cd66 ct66), sl66⟩) (c66 : PySem.W.codeIn K cd66 "_law_is_pair_right" = true) (k66 : PySem.W.keepIn K (.ref f66) = true) (a67 : PySem.W.nsIn K mainGlobals "_law_is_refusal_right" = some (some (.ref f67))) (l67 : K.lookup f67 = some ⟨oc67, od67, .func (PySem.W.fnOf "_law_is_refusal_right" "_law_is_refusal_right" (defArgs (top 67)) (defBody (top 67)) (defScope (top 67)) .none kV67 dc67 pm67 an67 (.ref cc67) ct67), sl67⟩) (c67 : PySem.W.codeIn K (.ref cc67) "_law_is_refusal_right" = true) (k67 : PySem.W.keepIn K (.ref f67) = true) (a68 : PySem.W.nsIn K mainGlobals "law" = some (some (.ref f68))) (l68 : K.lookup f68 = some ⟨oc68, od68, .func (PySem.W.fnOf "law" "law" (defArgs (top 68)) (defBody (top 68)) (defScope (top 68)) .none kV68 dc68 pm68 an68 cd68 ct68), sl68⟩) (c68 : PySem.W.codeIn K cd68 "law" = true) (k68 : PySem.W.keepIn K (.ref f68) = true)
    (z_abs : PySem.W.nsIn K mainGlobals "abs" = some none) (z_all : PySem.W.nsIn K mainGlobals "all" = some none) (z_any : PySem.W.nsIn K mainGlobals "any" = some none) (z_bool : PySem.W.nsIn K mainGlobals "bool" = some none) (z_enumerate : PySem.W.nsIn K mainGlobals "enumerate" = some none) (z_int : PySem.W.nsIn K mainGlobals "int" = some none) (z_isinstance : PySem.W.nsIn K mainGlobals "isinstance" = some none) (z_len : PySem.W.nsIn K mainGlobals "len" = some none) (z_list : PySem.W.nsIn K mainGlobals "list" = some none) (z_max : PySem.W.nsIn K mainGlobals "max" = some none) (z_min : PySem.W.nsIn K mainGlobals "min" = some none) (z_range : PySem.W.nsIn K mainGlobals "range" = some none) (z_repr : PySem.W.nsIn K mainGlobals "repr" = some none) (z_sum : PySem.W.nsIn K mainGlobals "sum" = some none) (z_tuple : PySem.W.nsIn K mainGlobals "tuple" = some none) (z_zip : PySem.W.nsIn K mainGlobals "zip" = some none) (z_gcd : PySem.W.nsIn K mainGlobals "gcd" = some (some (.builtin "math.gcd"))) (e1_BadNumber : PySem.W.nsIn K mainGlobals "BadNumber" = some (some (.ref C_BadNumber))) (e4_BadNumber : PySem.W.subIn K (.ref C_BadNumber) (.type "BaseException") = some true) (e5_BadNumber : PySem.W.typeIn K (.ref C_BadNumber) = some (.type "type")) (x1_BadNumber : PySem.W.excInitIn K C_BadNumber exT "Exception.__new__" = true) (x2_BadNumber : PySem.W.excOver K C_BadNumber exT = true) (x3_BadNumber : PySem.W.takerIn K C_BadNumber "thing" = some none) (x4_BadNumber : PySem.W.findIn K (.ref C_BadNumber) "thing" = some none) (x5_BadNumber : PySem.W.findIn K (.ref C_BadNumber) "__setattr__" = some (some (.builtin "object.__setattr__"))) (x6_BadNumber : PySem.W.findIn K (.ref C_BadNumber) "__init__" = some (some (.ref fI_BadNumber))) (x7_BadNumber : PySem.W.typeIn K (.ref fI_BadNumber) = some (.type "function")) (e3_BadNumber : PySem.W.keepIn K (.ref C_BadNumber) = true) (x9_BadNumber : PySem.W.hasDictIn K C_BadNumber = true) (y1_BadNumber : K.lookup fI_BadNumber = some ⟨oc_BadNumber, od_BadNumber, .func (PySem.W.fnOf "__init__" "BadNumber.__init__" (defArgs (initS 3)) (defBody (initS 3)) (defScope (initS 3)) .none kV_BadNumber dc_BadNumber pm_BadNumber an_BadNumber cd_BadNumber ct_BadNumber), sl_BadNumber⟩) (y2_BadNumber : PySem.W.codeIn K cd_BadNumber "BadNumber.__init__" = true) (y3_BadNumber : PySem.W.keepIn K (.ref fI_BadNumber) = true) (g1_BadNumber : PySem.W.findIn K (.ref C_BadNumber) "__getattribute__" = some (some (.builtin "BaseException.__getattribute__"))) (g2_BadNumber : PySem.W.findIn K (.ref C_BadNumber) "__getattr__" = some none) (g3_BadNumber : PySem.W.findIn K (.ref C_BadNumber) "__class__" = some (some (.builtin "object.__class__"))) (g4_BadNumber : PySem.W.mroIn K C_BadNumber (.type "object") = some true) (e1_BadRow : PySem.W.nsIn K mainGlobals "BadRow" = some (some (.ref C_BadRow))) (e4_BadRow : PySem.W.subIn K (.ref C_BadRow) (.type "BaseException") = some true) (e5_BadRow : PySem.W.typeIn K (.ref C_BadRow) = some (.type "type")) (x1_BadRow : PySem.W.excInitIn K C_BadRow exT "Exception.__new__" = true) (x2_BadRow : PySem.W.excOver K C_BadRow exT = true) (x3_BadRow : PySem.W.takerIn K C_BadRow "thing" = some none) (x4_BadRow : PySem.W.findIn K (.ref C_BadRow) "thing" = some none) (x5_BadRow : PySem.W.findIn K (.ref C_BadRow) "__setattr__" = some (some (.builtin "object.__setattr__"))) (x6_BadRow : PySem.W.findIn K (.ref C_BadRow) "__init__" = some (some (.ref fI_BadRow))) (x7_BadRow : PySem.W.typeIn K (.ref fI_BadRow) = some (.type "function")) (e3_BadRow : PySem.W.keepIn K (.ref C_BadRow) = true) (x9_BadRow : PySem.W.hasDictIn K C_BadRow = true) (y1_BadRow : K.lookup fI_BadRow = some ⟨oc_BadRow, od_BadRow, .func (PySem.W.fnOf "__init__" "BadRow.__init__" (defArgs (initS 4)) (defBody (initS 4)) (defScope (initS 4)) .none kV_BadRow dc_BadRow pm_BadRow an_BadRow cd_BadRow ct_BadRow), sl_BadRow⟩) (y2_BadRow : PySem.W.codeIn K cd_BadRow "BadRow.__init__" = true) (y3_BadRow : PySem.W.keepIn K (.ref fI_BadRow) = true) (g1_BadRow : PySem.W.findIn K (.ref C_BadRow) "__getattribute__" = some (some (.builtin "BaseException.__getattribute__"))) (g2_BadRow : PySem.W.findIn K (.ref C_BadRow) "__getattr__" = some none) (g3_BadRow : PySem.W.findIn K (.ref C_BadRow) "__class__" = some (some (.builtin "object.__class__"))) (g4_BadRow : PySem.W.mroIn K C_BadRow (.type "object") = some true) (e1_BadTile : PySem.W.nsIn K mainGlobals "BadTile" = some (some (.ref C_BadTile))) (e4_BadTile : PySem.W.subIn K (.ref C_BadTile) (.type "BaseException") = some true) (e5_BadTile : PySem.W.typeIn K (.ref C_BadTile) = some (.type "type")) (q1_BadTile : (PySem.W.clsIn K C_BadTile).isSome = true) (x1_BadTile : PySem.W.excInitIn K C_BadTile exT "Exception.__new__" = true) (x2_BadTile : PySem.W.excOver K C_BadTile exT = true) (x3_BadTile : PySem.W.takerIn K C_BadTile "thing" = some none) (x4_BadTile : PySem.W.findIn K (.ref C_BadTile) "thing" = some none) (x5_BadTile : PySem.W.findIn K (.ref C_BadTile) "__setattr__" = some (some (.builtin "object.__setattr__"))) (x6_BadTile : PySem.W.findIn K (.ref C_BadTile) "__init__" = some (some (.ref fI_BadTile))) (x7_BadTile : PySem.W.typeIn K (.ref fI_BadTile) = some (.type "function")) (e3_BadTile : PySem.W.keepIn K (.ref C_BadTile) = true) (x9_BadTile : PySem.W.hasDictIn K C_BadTile = true) (y1_BadTile : K.lookup fI_BadTile = some ⟨oc_BadTile, od_BadTile, .func (PySem.W.fnOf "__init__" "BadTile.__init__" (defArgs (initS 5)) (defBody (initS 5)) (defScope (initS 5)) .none kV_BadTile dc_BadTile pm_BadTile an_BadTile cd_BadTile ct_BadTile), sl_BadTile⟩) (y2_BadTile : PySem.W.codeIn K cd_BadTile "BadTile.__init__" = true) (y3_BadTile : PySem.W.keepIn K (.ref fI_BadTile) = true) (g1_BadTile : PySem.W.findIn K (.ref C_BadTile) "__getattribute__" = some (some (.builtin "BaseException.__getattribute__"))) (g2_BadTile : PySem.W.findIn K (.ref C_BadTile) "__getattr__" = some none) (g3_BadTile : PySem.W.findIn K (.ref C_BadTile) "__class__" = some (some (.builtin "object.__class__"))) (g4_BadTile : PySem.W.mroIn K C_BadTile (.type "object") = some true) (r_BadNumber_BadTile : PySem.W.subIn K (.ref C_BadNumber) (.ref C_BadTile) = some false) (r_BadRow_BadTile : PySem.W.subIn K (.ref C_BadRow) (.ref C_BadTile) = some false) (r_BadTile_BadTile : PySem.W.subIn K (.ref C_BadTile) (.ref C_BadTile) = some true) (d1 : PySem.W.nsOkIn K cStatics = true) (d2 : PySem.W.nsIn K cStatics "sys.int_max_str_digits" = some none) (ddV52 : K.lookup DV52 = some ⟨DCV52, DDV52, .seq #[(.int 1 y1)] DNV52, DSV52⟩) (ta67 : K.lookup cc67 = some ⟨tc67, td67, .fields tv67, ts67⟩) (tb67 : tv67[11]? = some (.ref Pt67)) (n67 : K.lookup Pt67 = none) (th67 : ∀ c Pt : Addr, PySem.W.tabIn K "_law_is_refusal_right" = some (c, Pt) → PySem.W.CodeHd h c Pt ∧ h.get? Pt = some { cls := .none, data := .fields #[] }) :
    ∃ (fd : FuncData) (T : List (Addr × Addr × Str)), (∀ p ∈ T, h.get? p.2.1 = some { cls := .none, data := .fields #[] } ∧ K.lookup p.2.1 = none ∧ PySem.W.CodeHd h p.1 p.2.1) ∧ (∀ (s : Shared) (u : Value), BindsTo s fd ⟨[u], []⟩ [("_law_script", u)]) ∧ ∀ base : Heap, K.In base → base.Ns mainGlobals mg → (∀ p ∈ T, LamX.TabB base mg p.1 p.2.1) → FnG l.prog w K mg base 13 fa fd ["_law_script"] (spLaw K (T.map fun p => (p.2.1, p.2.2))) := by
  have e := hfa.symm.trans (PySem.W.mg_of X G a68)
  cases e
  have bt : Bt mg := ⟨PySem.W.mg_none_of X G z_abs, PySem.W.mg_none_of X G z_all, PySem.W.mg_none_of X G z_any, PySem.W.mg_none_of X G z_bool, PySem.W.mg_none_of X G z_enumerate, PySem.W.mg_none_of X G z_int, PySem.W.mg_none_of X G z_isinstance, PySem.W.mg_none_of X G z_len, PySem.W.mg_none_of X G z_list, PySem.W.mg_none_of X G z_max, PySem.W.mg_none_of X G z_min, PySem.W.mg_none_of X G z_range, PySem.W.mg_none_of X G z_repr, PySem.W.mg_none_of X G z_sum, PySem.W.mg_none_of X G z_tuple, PySem.W.mg_none_of X G z_zip, PySem.W.mg_of X G z_gcd⟩
  have m_BadNumber : mg "BadNumber" = some (.ref C_BadNumber) := PySem.W.mg_of X G e1_BadNumber
  have m_BadRow : mg "BadRow" = some (.ref C_BadRow) := PySem.W.mg_of X G e1_BadRow
  have m_BadTile : mg "BadTile" = some (.ref C_BadTile) := PySem.W.mg_of X G e1_BadTile
  have T_BadNumber : ErC K mg "BadNumber" "thing" C_BadNumber fI_BadNumber := ⟨m_BadNumber, x1_BadNumber, x2_BadNumber, x3_BadNumber, x4_BadNumber, x5_BadNumber, x6_BadNumber, x7_BadNumber, e3_BadNumber, e4_BadNumber, e5_BadNumber, x9_BadNumber⟩
  have N_BadNumber := in_BadNumber (fun_mk (x := "__init__") (st := initS 3) y1_BadNumber y2_BadNumber y3_BadNumber)
  have T_BadRow : ErC K mg "BadRow" "thing" C_BadRow fI_BadRow := ⟨m_BadRow, x1_BadRow, x2_BadRow, x3_BadRow, x4_BadRow, x5_BadRow, x6_BadRow, x7_BadRow, e3_BadRow, e4_BadRow, e5_BadRow, x9_BadRow⟩
  have N_BadRow := in_BadRow (fun_mk (x := "__init__") (st := initS 4) y1_BadRow y2_BadRow y3_BadRow)
  have T_BadTile : ErC K mg "BadTile" "thing" C_BadTile fI_BadTile := ⟨m_BadTile, x1_BadTile, x2_BadTile, x3_BadTile, x4_BadTile, x5_BadTile, x6_BadTile, x7_BadTile, e3_BadTile, e4_BadTile, e5_BadTile, x9_BadTile⟩
  have N_BadTile := in_BadTile (fun_mk (x := "__init__") (st := initS 5) y1_BadTile y2_BadTile y3_BadTile)
  have tab : ClsTab ⟨K, mg⟩ clsM := fun x y b u v h hu hv => by
    have hm := look3_mem h
    simp only [clsML, List.mem_cons, List.not_mem_nil, or_false, Prod.mk.injEq] at hm
    rcases hm with ⟨rfl, rfl, rfl⟩ | ⟨rfl, rfl, rfl⟩ | ⟨rfl, rfl, rfl⟩
    · cases m_BadNumber.symm.trans hu; cases m_BadTile.symm.trans hv; exact exm_of q1_BadTile e4_BadTile e5_BadTile r_BadNumber_BadTile
    · cases m_BadRow.symm.trans hu; cases m_BadTile.symm.trans hv; exact exm_of q1_BadTile e4_BadTile e5_BadTile r_BadRow_BadTile
    · cases m_BadTile.symm.trans hu; cases m_BadTile.symm.trans hv; exact exm_of q1_BadTile e4_BadTile e5_BadTile r_BadTile_BadTile
  have get_thing : GetTab ⟨K, mg⟩ knownE "thing" := fun nm hk => by
    simp only [knownE, Bool.or_eq_true, beq_iff_eq] at hk
    rcases hk with ((rfl | rfl) | rfl)
    · exact ⟨C_BadNumber, m_BadNumber, ⟨g1_BadNumber, g2_BadNumber, e4_BadNumber, x9_BadNumber, x4_BadNumber⟩⟩
    · exact ⟨C_BadRow, m_BadRow, ⟨g1_BadRow, g2_BadRow, e4_BadRow, x9_BadRow, x4_BadRow⟩⟩
    · exact ⟨C_BadTile, m_BadTile, ⟨g1_BadTile, g2_BadTile, e4_BadTile, x9_BadTile, x4_BadTile⟩⟩
  have ct : Ct K mg := ⟨⟨C_BadNumber, fI_BadNumber, T_BadNumber, N_BadNumber⟩, ⟨C_BadRow, fI_BadRow, T_BadRow, N_BadRow⟩, ⟨C_BadTile, fI_BadTile, T_BadTile, N_BadTile⟩, ⟨C_BadTile, m_BadTile⟩, tab, get_thing, ⟨d1, d2⟩⟩
  have F7 := fun_mk (st := top 7) l7 c7 k7
  have F8 := fun_mk (st := top 8) l8 c8 k8
  have F9 := fun_mk (st := top 9) l9 c9 k9
  have F10 := fun_mk (st := top 10) l10 c10 k10
  have F11 := fun_mk (st := top 11) l11 c11 k11
  have F12 := fun_mk (st := top 12) l12 c12 k12
  have F13 := fun_mk (st := top 13) l13 c13 k13
  have F14 := fun_mk (st := top 14) l14 c14 k14
  have F15 := fun_mk (st := top 15) l15 c15 k15
  have F16 := fun_mk (st := top 16) l16 c16 k16
  have F17 := fun_mk (st := top 17) l17 c17 k17
  have F19 := fun_mk (st := top 19) l19 c19 k19
  have F20 := fun_mk (st := top 20) l20 c20 k20
  have F21 := fun_mk (st := top 21) l21 c21 k21
  have F22 := fun_mk (st := top 22) l22 c22 k22
  have F23 := fun_mk (st := top 23) l23 c23 k23
  have F25 := fun_mk (st := top 25) l25 c25 k25
  have F26 := fun_mk (st := top 26) l26 c26 k26
  have F27 := fun_mk (st := top 27) l27 c27 k27
  have F29 := fun_mk (st := top 29) l29 c29 k29
  have F30 := fun_mk (st := top 30) l30 c30 k30
  have F31 := fun_mk (st := top 31) l31 c31 k31
  have F32 := fun_mk (st := top 32) l32 c32 k32
  have F33 := fun_mk (st := top 33) l33 c33 k33
  have F34 := fun_mk (st := top 34) l34 c34 k34
  have F35 := fun_mk (st := top 35) l35 c35 k35
  have F36 := fun_mk (st := top 36) l36 c36 k36
  have F37 := fun_mk (st := top 37) l37 c37 k37
  have F39 := fun_mk (st := top 39) l39 c39 k39
  have F40 := fun_mk (st := top 40) l40 c40 k40
  have F41 := fun_mk (st := top 41) l41 c41 k41
  have F43 := fun_mk (st := top 43) l43 c43 k43
  have F45 := fun_mk (st := top 45) l45 c45 k45
  have F47 := fun_mk (st := top 47) l47 c47 k47
  have F48 := fun_mk (st := top 48) l48 c48 k48
  have F49 := fun_mk (st := top 49) l49 c49 k49
  have F50 := fun_mk (st := top 50) l50 c50 k50
  have F51 := fun_mk (st := top 51) l51 c51 k51
  have F52 := funv_mk (K := K) (st := top 52) (dvs := [(.int 1)]) l52 c52 k52 (by simp) ddV52 rfl (.cons (relv_int 1 y1) .nil)
  have F53 := fun_mk (st := top 53) l53 c53 k53
  have F54 := fun_mk (st := top 54) l54 c54 k54
  have F55 := fun_mk (st := top 55) l55 c55 k55
  have F56 := fun_mk (st := top 56) l56 c56 k56
  have F57 := fun_mk (st := top 57) l57 c57 k57
  have F58 := fun_mk (st := top 58) l58 c58 k58
  have F59 := fun_mk (st := top 59) l59 c59 k59
  have F60 := fun_mk (st := top 60) l60 c60 k60
  have F61 := fun_mk (st := top 61) l61 c61 k61
  have F62 := fun_mk (st := top 62) l62 c62 k62
  have F63 := fun_mk (st := top 63) l63 c63 k63
  have F64 := fun_mk (st := top 64) l64 c64 k64
  have F65 := fun_mk (st := top 65) l65 c65 k65
  have F66 := fun_mk (st := top 66) l66 c66 k66
  have F67 : FunC K "_law_is_refusal_right" (top 67) f67 (.ref cc67) := ⟨⟨_, _, _, _, _, _, _, _, l67, c67⟩, k67⟩
  have F68 := fun_mk (st := top 68) l68 c68 k68
  refine ⟨PySem.W.fnOf "law" "law" (defArgs (top 68)) (defBody (top 68)) (defScope (top 68)) .none kV68 dc68 pm68 an68 cd68 ct68, [(cc67, Pt67, ql__law_is_refusal_right)], fun p hp => ?_, fun s v => .of_eq rfl, fun base _ _ TB => ?_⟩
  · simp only [List.mem_cons, List.not_mem_nil, or_false] at hp
    rcases hp with rfl
    · have hh := th67 _ _ (tabIn_of a67 l67 rfl ta67 tb67)
      exact ⟨hh.2, n67, hh.1⟩
  show FnG l.prog w K mg base _ _ _ _ (spLaw K [(Pt67, ql__law_is_refusal_right)])
  have tb__law_is_refusal_right : LamX.TabB base mg cc67 Pt67 := TB (cc67, Pt67, ql__law_is_refusal_right) (by simp)
  have inT__law_is_refusal_right : (Pt67, ql__law_is_refusal_right) ∈ ([(Pt67, ql__law_is_refusal_right)] : List (Addr × Str)) := by simp
  have one__law_is_refusal_right : ∀ p ∈ ([(Pt67, ql__law_is_refusal_right)] : List (Addr × Str)), p.1 = Pt67 → p.2 = ql__law_is_refusal_right := fun p hp e => by
    simp only [List.mem_cons, List.not_mem_nil, or_false] at hp
    rcases hp with rfl
    · rfl
  have O__law_draw := ok__law_draw (P := l.prog) (w := w) (base := base) (T := [(Pt67, ql__law_is_refusal_right)]) bt (PySem.W.mg_of X G a48) F48
  have O_is_integer := ok_is_integer (P := l.prog) (w := w) (base := base) (T := [(Pt67, ql__law_is_refusal_right)]) bt ct (PySem.W.mg_of X G a7) F7 
  have O_normal := ok_normal (P := l.prog) (w := w) (base := base) (T := [(Pt67, ql__law_is_refusal_right)]) bt ct (PySem.W.mg_of X G a9) F9 
  have O_pair_sign := ok_pair_sign (P := l.prog) (w := w) (base := base) (T := [(Pt67, ql__law_is_refusal_right)]) bt ct (PySem.W.mg_of X G a10) F10 
  have O_negative := ok_negative (P := l.prog) (w := w) (base := base) (T := [(Pt67, ql__law_is_refusal_right)]) bt ct (PySem.W.mg_of X G a13) F13 
  have O_raised := ok_raised (P := l.prog) (w := w) (base := base) (T := [(Pt67, ql__law_is_refusal_right)]) bt ct (PySem.W.mg_of X G a22) F22 
  have O_are_near := ok_are_near (P := l.prog) (w := w) (base := base) (T := [(Pt67, ql__law_is_refusal_right)]) bt ct (PySem.W.mg_of X G a23) F23 
  have O_lies_left := ok_lies_left (P := l.prog) (w := w) (base := base) (T := [(Pt67, ql__law_is_refusal_right)]) bt ct (PySem.W.mg_of X G a36) F36 
  have O_beside := ok_beside (P := l.prog) (w := w) (base := base) (T := [(Pt67, ql__law_is_refusal_right)]) bt ct (PySem.W.mg_of X G a39) F39 
  have O__law_sign := ok__law_sign (P := l.prog) (w := w) (base := base) (T := [(Pt67, ql__law_is_refusal_right)]) bt ct (PySem.W.mg_of X G a50) F50 
  have O__law_is_integer := ok__law_is_integer (P := l.prog) (w := w) (base := base) (T := [(Pt67, ql__law_is_refusal_right)]) bt ct (PySem.W.mg_of X G a51) F51 
  have O__law_up := ok__law_up (P := l.prog) (w := w) (base := base) (T := [(Pt67, ql__law_is_refusal_right)]) bt ct (PySem.W.mg_of X G a52) F52 (by simp) (fun F => (.cons (.int _) .nil)) 
  have O__law_bad := ok__law_bad (P := l.prog) (w := w) (base := base) (T := [(Pt67, ql__law_is_refusal_right)]) bt ct (PySem.W.mg_of X G a64) F64 
  have O_is_number := ok_is_number (P := l.prog) (w := w) (base := base) (T := [(Pt67, ql__law_is_refusal_right)]) bt ct (PySem.W.mg_of X G a8) F8 O_is_integer
  have O_sign_of := ok_sign_of (P := l.prog) (w := w) (base := base) (T := [(Pt67, ql__law_is_refusal_right)]) bt ct (PySem.W.mg_of X G a11) F11 O_pair_sign
  have O_compared := ok_compared (P := l.prog) (w := w) (base := base) (T := [(Pt67, ql__law_is_refusal_right)]) bt ct (PySem.W.mg_of X G a12) F12 O_pair_sign
  have O_added := ok_added (P := l.prog) (w := w) (base := base) (T := [(Pt67, ql__law_is_refusal_right)]) bt ct (PySem.W.mg_of X G a14) F14 O_normal
  have O_is_direction := ok_is_direction (P := l.prog) (w := w) (base := base) (T := [(Pt67, ql__law_is_refusal_right)]) bt ct (PySem.W.mg_of X G a19) F19 O_is_integer
  have O_is_five := ok_is_five (P := l.prog) (w := w) (base := base) (T := [(Pt67, ql__law_is_refusal_right)]) bt ct (PySem.W.mg_of X G a20) F20 O_is_integer
  have O__law_pick := ok__law_pick (P := l.prog) (w := w) (base := base) (T := [(Pt67, ql__law_is_refusal_right)]) bt ct (PySem.W.mg_of X G a49) F49 O__law_draw
  have O__law_corners := ok__law_corners (P := l.prog) (w := w) (base := base) (T := [(Pt67, ql__law_is_refusal_right)]) bt ct (PySem.W.mg_of X G a53) F53 O__law_up
  have O__law_marked := ok__law_marked (P := l.prog) (w := w) (base := base) (T := [(Pt67, ql__law_is_refusal_right)]) bt ct (PySem.W.mg_of X G a54) F54 O__law_up
  have O__law_choices := ok__law_choices (P := l.prog) (w := w) (base := base) (T := [(Pt67, ql__law_is_refusal_right)]) bt ct (PySem.W.mg_of X G a56) F56 O__law_up
  have O__law_do_overlap := ok__law_do_overlap (P := l.prog) (w := w) (base := base) (T := [(Pt67, ql__law_is_refusal_right)]) bt ct (PySem.W.mg_of X G a57) F57 O__law_sign
  have O__law_is_tile := ok__law_is_tile (P := l.prog) (w := w) (base := base) (T := [(Pt67, ql__law_is_refusal_right)]) bt ct (PySem.W.mg_of X G a58) F58 O__law_is_integer
  have O__law_great := ok__law_great (P := l.prog) (w := w) (base := base) (T := [(Pt67, ql__law_is_refusal_right)]) bt ct (PySem.W.mg_of X G a61) F61 O__law_draw
  have O_taken := ok_taken (P := l.prog) (w := w) (base := base) (T := [(Pt67, ql__law_is_refusal_right)]) bt ct (PySem.W.mg_of X G a15) F15 O_added O_negative
  have O_greatest := ok_greatest (P := l.prog) (w := w) (base := base) (T := [(Pt67, ql__law_is_refusal_right)]) bt ct (PySem.W.mg_of X G a16) F16 O_compared
  have O_least := ok_least (P := l.prog) (w := w) (base := base) (T := [(Pt67, ql__law_is_refusal_right)]) bt ct (PySem.W.mg_of X G a17) F17 O_compared
  have O_is_corner_five := ok_is_corner_five (P := l.prog) (w := w) (base := base) (T := [(Pt67, ql__law_is_refusal_right)]) bt ct (PySem.W.mg_of X G a21) F21 O_is_five
  have O_need_numbers := ok_need_numbers (P := l.prog) (w := w) (base := base) (T := [(Pt67, ql__law_is_refusal_right)]) bt ct (PySem.W.mg_of X G a25) F25 O_is_number
  have O_point_of := ok_point_of (P := l.prog) (w := w) (base := base) (T := [(Pt67, ql__law_is_refusal_right)]) bt ct (PySem.W.mg_of X G a45) F45 O_is_five O_normal
  have O__law_meeting := ok__law_meeting (P := l.prog) (w := w) (base := base) (T := [(Pt67, ql__law_is_refusal_right)]) bt ct (PySem.W.mg_of X G a55) F55 O__law_marked
  have O__law_odd := ok__law_odd (P := l.prog) (w := w) (base := base) (T := [(Pt67, ql__law_is_refusal_right)]) bt ct (PySem.W.mg_of X G a59) F59 O__law_pick
  have O__law_any_tile := ok__law_any_tile (P := l.prog) (w := w) (base := base) (T := [(Pt67, ql__law_is_refusal_right)]) bt ct (PySem.W.mg_of X G a62) F62 O__law_draw O__law_great
  have O__law_near := ok__law_near (P := l.prog) (w := w) (base := base) (T := [(Pt67, ql__law_is_refusal_right)]) bt ct (PySem.W.mg_of X G a63) F63 O__law_pick O__law_draw O__law_corners O__law_up
  have O_minus := ok_minus (P := l.prog) (w := w) (base := base) (T := [(Pt67, ql__law_is_refusal_right)]) bt ct (PySem.W.mg_of X G a26) F26 O_need_numbers O_taken
  have O_sign := ok_sign (P := l.prog) (w := w) (base := base) (T := [(Pt67, ql__law_is_refusal_right)]) bt ct (PySem.W.mg_of X G a27) F27 O_need_numbers O_sign_of
  have O_is_tile_row := ok_is_tile_row (P := l.prog) (w := w) (base := base) (T := [(Pt67, ql__law_is_refusal_right)]) bt ct (PySem.W.mg_of X G a29) F29 O_is_direction O_is_corner_five
  have O__law_bent_tile := ok__law_bent_tile (P := l.prog) (w := w) (base := base) (T := [(Pt67, ql__law_is_refusal_right)]) bt ct (PySem.W.mg_of X G a60) F60 O__law_draw O__law_odd O__law_up O__law_pick
  have O_need_tile := ok_need_tile (P := l.prog) (w := w) (base := base) (T := [(Pt67, ql__law_is_refusal_right)]) bt ct (PySem.W.mg_of X G a30) F30 O_is_tile_row
  have O__law_is_parted := ok__law_is_parted (P := l.prog) (w := w) (base := base) (T := [(Pt67, ql__law_is_refusal_right)]) bt ct (PySem.W.mg_of X G a65) F65 O_point_of O__law_corners O_sign O_minus
  have O_corners_of := ok_corners_of (P := l.prog) (w := w) (base := base) (T := [(Pt67, ql__law_is_refusal_right)]) bt ct (PySem.W.mg_of X G a31) F31 O_need_tile O_raised
  have O_edges_of := ok_edges_of (P := l.prog) (w := w) (base := base) (T := [(Pt67, ql__law_is_refusal_right)]) bt ct (PySem.W.mg_of X G a32) F32 O_need_tile O_raised
  have O_is_thick := ok_is_thick (P := l.prog) (w := w) (base := base) (T := [(Pt67, ql__law_is_refusal_right)]) bt ct (PySem.W.mg_of X G a33) F33 O_need_tile O_are_near
  have O_is_low := ok_is_low (P := l.prog) (w := w) (base := base) (T := [(Pt67, ql__law_is_refusal_right)]) bt ct (PySem.W.mg_of X G a34) F34 O_need_tile
  have O_marks_of := ok_marks_of (P := l.prog) (w := w) (base := base) (T := [(Pt67, ql__law_is_refusal_right)]) bt ct (PySem.W.mg_of X G a35) F35 O_is_low O_is_thick
  have O_is_parted := ok_is_parted (P := l.prog) (w := w) (base := base) (T := [(Pt67, ql__law_is_refusal_right)]) bt ct (PySem.W.mg_of X G a40) F40 O_beside O_corners_of O_compared O_greatest O_least
  have O_does_fit := ok_does_fit (P := l.prog) (w := w) (base := base) (T := [(Pt67, ql__law_is_refusal_right)]) bt ct (PySem.W.mg_of X G a37) F37 O_edges_of O_lies_left O_marks_of
  have O_are_overlapping := ok_are_overlapping (P := l.prog) (w := w) (base := base) (T := [(Pt67, ql__law_is_refusal_right)]) bt ct (PySem.W.mg_of X G a41) F41 O_is_parted
  have O_do_overlap := ok_do_overlap (P := l.prog) (w := w) (base := base) (T := [(Pt67, ql__law_is_refusal_right)]) bt ct (PySem.W.mg_of X G a43) F43 O_are_overlapping O_is_tile_row
  have O__law_is_pair_right := ok__law_is_pair_right (P := l.prog) (w := w) (base := base) (T := [(Pt67, ql__law_is_refusal_right)]) bt ct (PySem.W.mg_of X G a66) F66 O__law_do_overlap O__law_meeting O_do_overlap O_does_fit O__law_draw O__law_is_parted
  have O__law_is_refusal_right := ok__law_is_refusal_right (P := l.prog) (w := w) (base := base) (T := [(Pt67, ql__law_is_refusal_right)]) tb__law_is_refusal_right inT__law_is_refusal_right one__law_is_refusal_right bt ct (PySem.W.mg_of X G a67) F67 O__law_bad O__law_bent_tile O__law_draw O_do_overlap O__law_do_overlap O__law_is_tile
  exact ok_law bt ct (PySem.W.mg_of X G a47) F47 F68 O__law_any_tile O__law_pick O__law_marked O__law_choices O__law_near O__law_is_pair_right O_do_overlap O_does_fit O__law_draw O__law_is_refusal_right
end K92

open PySem PySem.W PyProof.Rows in
set_option maxRecDepth 100000 in
set_option maxHeartbeats 0 in
theorem PySem.Challenge.cw_nevertwice_k92_overlaps_of_any_two_tiles_holds : PySem.Challenge.rw_nevertwice_k92_overlaps_of_any_two_tiles.Holds := by
  w_on; o_law; k_head; (case hw => w_witness2)
  k_fill
  refine ND.walkGT (k := 13) (x := "_law_script") (l := PySem.Challenge.rw_nevertwice_k92_overlaps_of_any_two_tiles) rfl rfl ⟨rfl, by decide, by decide⟩ (fun w h Y => PySem.W.km_in_of Y) ?F
  case F =>
    intro w mg mb fa h Y KX G hmg tabs
    refine' K92.all_ok KX G hmg ?a7 ?l7 ?c7 ?k7 ?a8 ?l8 ?c8 ?k8 ?a9 ?l9 ?c9 ?k9 ?a10 ?l10 ?c10 ?k10 ?a11 ?l11 ?c11 ?k11 ?a12 ?l12 ?c12 ?k12 ?a13 ?l13 ?c13 ?k13 ?a14 ?l14 ?c14 ?k14 ?a15 ?l15 ?c15 ?k15 ?a16 ?l16 ?c16 ?k16 ?a17 ?l17 ?c17 ?k17 ?a19 ?l19 ?c19 ?k19 ?a20 ?l20 ?c20 ?k20 ?a21 ?l21 ?c21 ?k21 ?a22 ?l22 ?c22 ?k22 ?a23 ?l23 ?c23 ?k23 ?a25 ?l25 ?c25 ?k25 ?a26 ?l26 ?c26 ?k26 ?a27 ?l27 ?c27 ?k27 ?a29 ?l29 ?c29 ?k29 ?a30 ?l30 ?c30 ?k30 ?a31 ?l31 ?c31 ?k31 ?a32 ?l32 ?c32 ?k32 ?a33 ?l33 ?c33 ?k33 ?a34 ?l34 ?c34 ?k34 ?a35 ?l35 ?c35 ?k35 ?a36 ?l36 ?c36 ?k36 ?a37 ?l37 ?c37 ?k37 ?a39 ?l39 ?c39 ?k39 ?a40 ?l40 ?c40 ?k40 ?a41 ?l41 ?c41 ?k41 ?a43 ?l43 ?c43 ?k43 ?a45 ?l45 ?c45 ?k45 ?a47 ?l47 ?c47 ?k47 ?a48 ?l48 ?c48 ?k48 ?a49 ?l49 ?c49 ?k49 ?a50 ?l50 ?c50 ?k50 ?a51 ?l51 ?c51 ?k51 ?a52 ?l52 ?c52 ?k52 ?a53 ?l53 ?c53 ?k53 ?a54 ?l54 ?c54 ?k54 ?a55 ?l55 ?c55 ?k55 ?a56 ?l56 ?c56 ?k56 ?a57 ?l57 ?c57 ?k57 ?a58 ?l58 ?c58 ?k58 ?a59 ?l59 ?c59 ?k59 ?a60 ?l60 ?c60 ?k60 ?a61 ?l61 ?c61 ?k61 ?a62 ?l62 ?c62 ?k62 ?a63 ?l63 ?c63 ?k63 ?a64 ?l64 ?c64 ?k64 ?a65 ?l65 ?c65 ?k65 ?a66 ?l66 ?c66 ?k66 ?a67 ?l67 ?c67 ?k67 ?a68 ?l68 ?c68 ?k68 ?z_abs ?z_all ?z_any ?z_bool ?z_enumerate ?z_int ?z_isinstance ?z_len ?z_list ?z_max ?z_min ?z_range ?z_repr ?z_sum ?z_tuple ?z_zip ?z_gcd ?e1_BadNumber ?e4_BadNumber ?e5_BadNumber ?x1_BadNumber ?x2_BadNumber ?x3_BadNumber ?x4_BadNumber ?x5_BadNumber ?x6_BadNumber ?x7_BadNumber ?e3_BadNumber ?x9_BadNumber ?y1_BadNumber ?y2_BadNumber ?y3_BadNumber ?g1_BadNumber ?g2_BadNumber ?g3_BadNumber ?g4_BadNumber ?e1_BadRow ?e4_BadRow ?e5_BadRow ?x1_BadRow ?x2_BadRow ?x3_BadRow ?x4_BadRow ?x5_BadRow ?x6_BadRow ?x7_BadRow ?e3_BadRow ?x9_BadRow ?y1_BadRow ?y2_BadRow ?y3_BadRow ?g1_BadRow ?g2_BadRow ?g3_BadRow ?g4_BadRow ?e1_BadTile ?e4_BadTile ?e5_BadTile ?q1_BadTile ?x1_BadTile ?x2_BadTile ?x3_BadTile ?x4_BadTile ?x5_BadTile ?x6_BadTile ?x7_BadTile ?e3_BadTile ?x9_BadTile ?y1_BadTile ?y2_BadTile ?y3_BadTile ?g1_BadTile ?g2_BadTile ?g3_BadTile ?g4_BadTile ?r_BadNumber_BadTile ?r_BadRow_BadTile ?r_BadTile_BadTile ?d1 ?d2 ?ddV52 ?ta67 ?tb67 ?n67 ?th67
    (case a7 => k_is)
    (case l7 => k_is)
    (case c7 => k_is)
    (case k7 => k_is)
    (case a8 => k_is)
    (case l8 => k_is)
    (case c8 => k_is)
    (case k8 => k_is)
    (case a9 => k_is)
    (case l9 => k_is)
    (case c9 => k_is)
    (case k9 => k_is)
    (case a10 => k_is)
    (case l10 => k_is)
    (case c10 => k_is)
    (case k10 => k_is)
    (case a11 => k_is)
    (case l11 => k_is)
    (case c11 => k_is)
    (case k11 => k_is)
    (case a12 => k_is)
    (case l12 => k_is)
    (case c12 => k_is)
    (case k12 => k_is)
    (case a13 => k_is)
    (case l13 => k_is)
    (case c13 => k_is)
    (case k13 => k_is)
    (case a14 => k_is)
    (case l14 => k_is)
    (case c14 => k_is)
    (case k14 => k_is)
    (case a15 => k_is)
    (case l15 => k_is)
    (case c15 => k_is)
    (case k15 => k_is)
    (case a16 => k_is)
    (case l16 => k_is)
    (case c16 => k_is)
    (case k16 => k_is)
    (case a17 => k_is)
    (case l17 => k_is)
    (case c17 => k_is)
    (case k17 => k_is)
    (case a19 => k_is)
    (case l19 => k_is)
    (case c19 => k_is)
    (case k19 => k_is)
    (case a20 => k_is)
    (case l20 => k_is)
    (case c20 => k_is)
    (case k20 => k_is)
    (case a21 => k_is)
    (case l21 => k_is)
    (case c21 => k_is)
    (case k21 => k_is)
    (case a22 => k_is)
    (case l22 => k_is)
    (case c22 => k_is)
    (case k22 => k_is)
    (case a23 => k_is)
    (case l23 => k_is)
    (case c23 => k_is)
    (case k23 => k_is)
    (case a25 => k_is)
    (case l25 => k_is)
    (case c25 => k_is)
    (case k25 => k_is)
    (case a26 => k_is)
    (case l26 => k_is)
    (case c26 => k_is)
    (case k26 => k_is)
    (case a27 => k_is)
    (case l27 => k_is)
    (case c27 => k_is)
    (case k27 => k_is)
    (case a29 => k_is)
    (case l29 => k_is)
    (case c29 => k_is)
    (case k29 => k_is)
    (case a30 => k_is)
    (case l30 => k_is)
    (case c30 => k_is)
    (case k30 => k_is)
    (case a31 => k_is)
    (case l31 => k_is)
    (case c31 => k_is)
    (case k31 => k_is)
    (case a32 => k_is)
    (case l32 => k_is)
    (case c32 => k_is)
    (case k32 => k_is)
    (case a33 => k_is)
    (case l33 => k_is)
    (case c33 => k_is)
    (case k33 => k_is)
    (case a34 => k_is)
    (case l34 => k_is)
    (case c34 => k_is)
    (case k34 => k_is)
    (case a35 => k_is)
    (case l35 => k_is)
    (case c35 => k_is)
    (case k35 => k_is)
    (case a36 => k_is)
    (case l36 => k_is)
    (case c36 => k_is)
    (case k36 => k_is)
    (case a37 => k_is)
    (case l37 => k_is)
    (case c37 => k_is)
    (case k37 => k_is)
    (case a39 => k_is)
    (case l39 => k_is)
    (case c39 => k_is)
    (case k39 => k_is)
    (case a40 => k_is)
    (case l40 => k_is)
    (case c40 => k_is)
    (case k40 => k_is)
    (case a41 => k_is)
    (case l41 => k_is)
    (case c41 => k_is)
    (case k41 => k_is)
    (case a43 => k_is)
    (case l43 => k_is)
    (case c43 => k_is)
    (case k43 => k_is)
    (case a45 => k_is)
    (case l45 => k_is)
    (case c45 => k_is)
    (case k45 => k_is)
    (case a47 => k_is)
    (case l47 => k_is)
    (case c47 => k_is)
    (case k47 => k_is)
    (case a48 => k_is)
    (case l48 => k_is)
    (case c48 => k_is)
    (case k48 => k_is)
    (case a49 => k_is)
    (case l49 => k_is)
    (case c49 => k_is)
    (case k49 => k_is)
    (case a50 => k_is)
    (case l50 => k_is)
    (case c50 => k_is)
    (case k50 => k_is)
    (case a51 => k_is)
    (case l51 => k_is)
    (case c51 => k_is)
    (case k51 => k_is)
    (case a52 => k_is)
    (case l52 => k_is)
    (case c52 => k_is)
    (case k52 => k_is)
    (case a53 => k_is)
    (case l53 => k_is)
    (case c53 => k_is)
    (case k53 => k_is)
    (case a54 => k_is)
    (case l54 => k_is)
    (case c54 => k_is)
    (case k54 => k_is)
    (case a55 => k_is)
    (case l55 => k_is)
    (case c55 => k_is)
    (case k55 => k_is)
    (case a56 => k_is)
    (case l56 => k_is)
    (case c56 => k_is)
    (case k56 => k_is)
    (case a57 => k_is)
    (case l57 => k_is)
    (case c57 => k_is)
    (case k57 => k_is)
    (case a58 => k_is)
    (case l58 => k_is)
    (case c58 => k_is)
    (case k58 => k_is)
    (case a59 => k_is)
    (case l59 => k_is)
    (case c59 => k_is)
    (case k59 => k_is)
    (case a60 => k_is)
    (case l60 => k_is)
    (case c60 => k_is)
    (case k60 => k_is)
    (case a61 => k_is)
    (case l61 => k_is)
    (case c61 => k_is)
    (case k61 => k_is)
    (case a62 => k_is)
    (case l62 => k_is)
    (case c62 => k_is)
    (case k62 => k_is)
    (case a63 => k_is)
    (case l63 => k_is)
    (case c63 => k_is)
    (case k63 => k_is)
    (case a64 => k_is)
    (case l64 => k_is)
    (case c64 => k_is)
    (case k64 => k_is)
    (case a65 => k_is)
    (case l65 => k_is)
    (case c65 => k_is)
    (case k65 => k_is)
    (case a66 => k_is)
    (case l66 => k_is)
    (case c66 => k_is)
    (case k66 => k_is)
    (case a67 => k_is)
    (case l67 => k_is)
    (case c67 => k_is)
    (case k67 => k_is)
    (case a68 => k_is)
    (case l68 => k_is)
    (case c68 => k_is)
    (case k68 => k_is)
    (case z_abs => k_is)
    (case z_all => k_is)
    (case z_any => k_is)
    (case z_bool => k_is)
    (case z_enumerate => k_is)
    (case z_int => k_is)
    (case z_isinstance => k_is)
    (case z_len => k_is)
    (case z_list => k_is)
    (case z_max => k_is)
    (case z_min => k_is)
    (case z_range => k_is)
    (case z_repr => k_is)
    (case z_sum => k_is)
    (case z_tuple => k_is)
    (case z_zip => k_is)
    (case z_gcd => k_is)
    (case e1_BadNumber => k_is)
    (case e4_BadNumber => k_is)
    (case e5_BadNumber => k_is)
    (case x1_BadNumber => first | k_exc | k_is | kernel_rfl)
    (case x2_BadNumber => first | k_exc | k_is | kernel_rfl)
    (case x3_BadNumber => k_is)
    (case x4_BadNumber => k_is)
    (case x5_BadNumber => k_is)
    (case x6_BadNumber => k_is)
    (case x7_BadNumber => k_is)
    (case e3_BadNumber => k_is)
    (case x9_BadNumber => k_is)
    (case y1_BadNumber => k_is)
    (case y2_BadNumber => k_is)
    (case y3_BadNumber => k_is)
    (case g1_BadNumber => k_is)
    (case g2_BadNumber => k_is)
    (case g3_BadNumber => k_is)
    (case g4_BadNumber => k_is)
    (case e1_BadRow => k_is)
    (case e4_BadRow => k_is)
    (case e5_BadRow => k_is)
    (case x1_BadRow => first | k_exc | k_is | kernel_rfl)
    (case x2_BadRow => first | k_exc | k_is | kernel_rfl)
    (case x3_BadRow => k_is)
    (case x4_BadRow => k_is)
    (case x5_BadRow => k_is)
    (case x6_BadRow => k_is)
    (case x7_BadRow => k_is)
    (case e3_BadRow => k_is)
    (case x9_BadRow => k_is)
    (case y1_BadRow => k_is)
    (case y2_BadRow => k_is)
    (case y3_BadRow => k_is)
    (case g1_BadRow => k_is)
    (case g2_BadRow => k_is)
    (case g3_BadRow => k_is)
    (case g4_BadRow => k_is)
    (case e1_BadTile => k_is)
    (case e4_BadTile => k_is)
    (case e5_BadTile => k_is)
    (case q1_BadTile => first | k_is | kernel_rfl)
    (case x1_BadTile => first | k_exc | k_is | kernel_rfl)
    (case x2_BadTile => first | k_exc | k_is | kernel_rfl)
    (case x3_BadTile => k_is)
    (case x4_BadTile => k_is)
    (case x5_BadTile => k_is)
    (case x6_BadTile => k_is)
    (case x7_BadTile => k_is)
    (case e3_BadTile => k_is)
    (case x9_BadTile => k_is)
    (case y1_BadTile => k_is)
    (case y2_BadTile => k_is)
    (case y3_BadTile => k_is)
    (case g1_BadTile => k_is)
    (case g2_BadTile => k_is)
    (case g3_BadTile => k_is)
    (case g4_BadTile => k_is)
    (case r_BadNumber_BadTile => k_is)
    (case r_BadRow_BadTile => k_is)
    (case r_BadTile_BadTile => k_is)
    (case d1 => kernel_rfl)
    (case d2 => k_is)
    (case ddV52 => k_is)
    (case ta67 => k_is)
    (case tb67 => rfl)
    (case n67 => first | kernel_rfl | rfl)
    (case th67 => exact fun c Pt => tabs _ "_law_is_refusal_right" c Pt rfl)

