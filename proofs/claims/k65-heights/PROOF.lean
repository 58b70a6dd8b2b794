import PyProof.Rows.All
import Wide.All
import OpenK.AllK
import Wide.FinOn
import HandS.ForMost
import HandS.ForExc
import HandS.Lambda
import HandS.Wide
import HandS.Flow
import HandS.TupAny
import HandS.TupLe
import HandS.Style
import HandS.Deep
import HandS.Codes
import HandS.Zip
import HandS.Gcd
import HandS.IsInst
import HandS.Text
import HandS.Conv
import HandS.WordsDict
import HandS.RaiseMore
import KE.KMathG
import PyProof.StrBlock2
import HandS.WordsExc
import HandS.EndBits
import HandS.Dict
import HandS.Small
import HandS.Exc
import KE.KExcInit
import HandS.TryMany
import HandS.ExcIs
import PyProof.Rows.SumAny
import PyProof.WalksMore
import PyProof.Rows.StrOr
import KE.KIntText
import PyProof.ReprLen
import HandS.EndTab
import KE.KRevSl
import KE.KNest
import HandS.Defaults
import HandS.MakeKw
import HandS.MakeKwOnly
import HandS.Sort
import HandS.SortOrd
import HandS.SortRule
import KE.DataEq
import PyProof.EqKinds
import PyProof.FactsAll.dict
import PyProof.P3Eq
import PyProof.Rows.ReprOcc
import PyProof.Rows.StrIntSpec
import PyProof.EnumMake
import PyProof.Draws
import HandS.Zip0
import HandS.WideBits
import HandS.NoneIn
import PyProof.LongRange
import PySem.Challenge.RW_nevertwice_k65_bars_by_height_and_their
set_option Elab.async false
set_option maxRecDepth 100000
set_option maxHeartbeats 2000000
/-! ND1: data by value over HandS's abstract heap: D, Rep, the growth of a heap, the state of a body, expressions' and statements' judgements -/
namespace ND
open PySem PySem.Spec PyProof.Rows L2

/-- a value by value -/
inductive D where
  | non | bl (b : Bool) | int (i : Int) | str (x : Str)
  | tup (xs : List D) | lst (xs : List D)
  | dic (kvs : List (Key × D))
  | obj (C : Str) (fs : List (Str × D))
  | opq (v : V)

/-- the written part, the module's names -/
structure Kn where
  K : PySem.W.Frag
  mg : Str → Option Value
mutual
/-- v is d, by the frozen part F -/
inductive Rep (K : Kn) (F : Hp) : V → D → Prop
  | non : Rep K F .non .non
  | bl (b : Bool) : Rep K F (.bl b) (.bl b)
  | int (i : Int) : Rep K F (.int i) (.int i)
  | str (x : Str) : Rep K F (.str x) (.str x)
  | tup {a : Addr} {xs : List V} {ds : List D} : SqT K.K F a xs → Reps K F xs ds → Rep K F (.ref a) (.tup ds)
  | lst {a : Addr} {xs : List V} {ds : List D} : F a = some (.lst xs) → Reps K F xs ds → Rep K F (.ref a) (.lst ds)
  | dic {a : Addr} {kvs : List (Key × V)} {ds : List (Key × D)} : F a = some (.dK kvs) → RepKs K F kvs ds → Rep K F (.ref a) (.dic ds)
  | obj {a C dx : Addr} {n : Str} {fs : List (Str × V)} {ds : List (Str × D)} : K.mg n = some (.ref C) → F a = some (.ins C dx fs) → RepFs K F fs ds → Rep K F (.ref a) (.obj n ds)
  | opq (v : V) : Rep K F v (.opq v)
inductive Reps (K : Kn) (F : Hp) : List V → List D → Prop
  | nil : Reps K F [] []
  | cons {v : V} {vs : List V} {d : D} {ds : List D} : Rep K F v d → Reps K F vs ds → Reps K F (v :: vs) (d :: ds)
inductive RepKs (K : Kn) (F : Hp) : List (Key × V) → List (Key × D) → Prop
  | nil : RepKs K F [] []
  | cons {k : Key} {v : V} {vs : List (Key × V)} {d : D} {ds : List (Key × D)} : Rep K F v d → RepKs K F vs ds → RepKs K F ((k, v) :: vs) ((k, d) :: ds)
inductive RepFs (K : Kn) (F : Hp) : List (Str × V) → List (Str × D) → Prop
  | nil : RepFs K F [] []
  | cons {k : Str} {v : V} {vs : List (Str × V)} {d : D} {ds : List (Str × D)} : Rep K F v d → RepFs K F vs ds → RepFs K F ((k, v) :: vs) ((k, d) :: ds)
end

theorem same_t {K : PySem.W.Frag} {H H' : Hp} {a : Addr} {xs : List V} (e : Same H H') (h : SqT K H a xs) : SqT K H' a xs := by
  rcases h with (h | ⟨o, h⟩) | h
  · exact .inl (.inl (e _ _ h))
  · exact .inl (.inr ⟨o, e _ _ h⟩)
  · exact .inr h
theorem same_new {H : Hp} {p : Addr} {o : HO} (h : H p = none) : Same H (upd H p o) := fun b x e => by
  rw [upd_ne (ne_of_none e h)]
  exact e

mutual
theorem Rep.mono {K : Kn} {F F' : Hp} (e : Same F F') : ∀ {v : V} {d : D}, Rep K F v d → Rep K F' v d
  | _, _, .non => .non
  | _, _, .bl b => .bl b
  | _, _, .int i => .int i
  | _, _, .str x => .str x
  | _, _, .tup h r => .tup (same_t e h) (Reps.mono e r)
  | _, _, .lst h r => .lst (e _ _ h) (Reps.mono e r)
  | _, _, .dic h r => .dic (e _ _ h) (RepKs.mono e r)
  | _, _, .obj n h r => .obj n (e _ _ h) (RepFs.mono e r)
  | _, _, .opq v => .opq v
theorem Reps.mono {K : Kn} {F F' : Hp} (e : Same F F') : ∀ {v : List V} {d : List D}, Reps K F v d → Reps K F' v d
  | _, _, .nil => .nil
  | _, _, .cons r t => .cons (Rep.mono e r) (Reps.mono e t)
theorem RepKs.mono {K : Kn} {F F' : Hp} (e : Same F F') : ∀ {v : List (Key × V)} {d : List (Key × D)}, RepKs K F v d → RepKs K F' v d
  | _, _, .nil => .nil
  | _, _, .cons r t => .cons (Rep.mono e r) (RepKs.mono e t)
theorem RepFs.mono {K : Kn} {F F' : Hp} (e : Same F F') : ∀ {v : List (Str × V)} {d : List (Str × D)}, RepFs K F v d → RepFs K F' v d
  | _, _, .nil => .nil
  | _, _, .cons r t => .cons (Rep.mono e r) (RepFs.mono e t)
end

theorem Reps.length {K : Kn} {F : Hp} : ∀ {v : List V} {d : List D}, Reps K F v d → v.length = d.length
  | _, _, .nil => rfl
  | _, _, .cons _ t => by rw [List.length_cons, List.length_cons, Reps.length t]
theorem Reps.get {K : Kn} {F : Hp} : ∀ {v : List V} {d : List D} {i : Nat} {x : D}, Reps K F v d → d[i]? = some x → ∃ u, v[i]? = some u ∧ Rep K F u x
  | _, _, _, _, .nil, e => by simp at e
  | _, _, 0, x, .cons r _, e => by simp at e; subst e; exact ⟨_, rfl, r⟩
  | _, _, i + 1, x, .cons _ t, e => by
    obtain ⟨u, h1, h2⟩ := Reps.get (i := i) (x := x) t (by simpa using e)
    exact ⟨u, by simpa using h1, h2⟩
theorem Reps.getV {K : Kn} {F : Hp} : ∀ {v : List V} {d : List D} {i : Nat} {u : V}, Reps K F v d → v[i]? = some u → ∃ x, d[i]? = some x ∧ Rep K F u x
  | _, _, _, _, .nil, e => by simp at e
  | _, _, 0, x, .cons r _, e => by simp at e; subst e; exact ⟨_, rfl, r⟩
  | _, _, i + 1, x, .cons _ t, e => by
    obtain ⟨u, h1, h2⟩ := Reps.getV (i := i) (u := x) t (by simpa using e)
    exact ⟨u, by simpa using h1, h2⟩
theorem Reps.append {K : Kn} {F : Hp} : ∀ {v v' : List V} {d d' : List D}, Reps K F v d → Reps K F v' d' → Reps K F (v ++ v') (d ++ d')
  | _, _, _, _, .nil, h => h
  | _, _, _, _, .cons r t, h => .cons r (Reps.append t h)
theorem Reps.take {K : Kn} {F : Hp} : ∀ {v : List V} {d : List D} (n : Nat), Reps K F v d → Reps K F (v.take n) (d.take n)
  | _, _, 0, _ => .nil
  | _, _, n + 1, .nil => .nil
  | _, _, n + 1, .cons r t => .cons r (Reps.take n t)
theorem Reps.drop {K : Kn} {F : Hp} : ∀ {v : List V} {d : List D} (n : Nat), Reps K F v d → Reps K F (v.drop n) (d.drop n)
  | _, _, 0, h => h
  | _, _, n + 1, .nil => .nil
  | _, _, n + 1, .cons _ t => Reps.drop n t
theorem Reps.reverse {K : Kn} {F : Hp} : ∀ {v : List V} {d : List D}, Reps K F v d → Reps K F v.reverse d.reverse
  | _, _, .nil => .nil
  | _, _, .cons r t => by
    rw [List.reverse_cons, List.reverse_cons]
    exact Reps.append (Reps.reverse t) (.cons r .nil)
theorem Reps.set {K : Kn} {F : Hp} {u : V} {x : D} (h : Rep K F u x) : ∀ {v : List V} {d : List D} (n : Nat), Reps K F v d → Reps K F (v.set n u) (d.set n x)
  | _, _, _, .nil => .nil
  | _, _, 0, .cons _ t => .cons h t
  | _, _, n + 1, .cons r t => .cons r (Reps.set h n t)
/-! ### the deck: the one object that calls change -/
abbrev WD := Option (Addr × Addr)
/-- the deck, the tables of the code objects of lambdas -/
structure WT where
  p : WD
  T : List (Addr × Str)
def InW (W : WT) (a : Addr) : Prop := (∃ p, W.p = some p ∧ (a = p.1 ∨ a = p.2)) ∨ ∃ x, x ∈ W.T ∧ a = x.1
/-- the dict at p.1 with the keys left (the list at p.2), mixed, draws -/
def deckO (l : Addr) (m n : Int) : HO := .dK [(.inr "left", .ref l), (.inr "mixed", .int m), (.inr "draws", .int n)]
structure DeckAt (p : Addr × Addr) (F H : Hp) : Prop where
  fd : F p.1 = none
  fl : F p.2 = none
  ne : p.1 ≠ p.2
  st : ∃ (ns : List Int) (m n : Int), H p.1 = some (deckO p.2 m n) ∧ H p.2 = some (.lst (ns.map V.int)) ∧ ns.length ≤ 63 ∧ 0 ≤ m ∧ m < 2147483587
/-- no table -/
def NT (o : HO) : Prop := ∀ ps, o ≠ .tbl ps
structure DeckIn (W : WT) (F H : Hp) : Prop where
  dk : ∀ p, W.p = some p → DeckAt p F H
  tf : ∀ x, x ∈ W.T → F x.1 = none
  tb : LamX.Tabs W.T H
  nf : ∀ a o, F a = some o → NT o
  ot : ∀ a ps, H a = some (.tbl ps) → ∃ x, x ∈ W.T ∧ a = x.1
theorem DeckIn.w {W : WT} {F H : Hp} {a : Addr} (h : DeckIn W F H) (w : InW W a) : F a = none ∧ H a ≠ none := by
  rcases w with ⟨p, e0, e⟩ | ⟨x, hx, rfl⟩
  · have z := h.dk p e0
    obtain ⟨ns, m, n, h1, h2, _⟩ := z.st
    rcases e with e | e <;> subst e
    · exact ⟨z.fd, by rw [h1]; exact Option.some_ne_none _⟩
    · exact ⟨z.fl, by rw [h2]; exact Option.some_ne_none _⟩
  · obtain ⟨ps, h1, _⟩ := h.tb x hx
    exact ⟨h.tf x hx, by rw [h1]; exact Option.some_ne_none _⟩
/-- the deck stands where its objects stand -/
theorem DeckIn.keep {W : WT} {F H F' H' : Hp} (h : DeckIn W F H) (hf : ∀ a, InW W a → F' a = F a) (hh : ∀ a, InW W a → H' a = H a) (ex : ∀ a φ, H a = some (.ext φ) → H' a = some (.ext φ)) (nf : ∀ a o, F' a = some o → NT o) (ot : ∀ a ps, H' a = some (.tbl ps) → H a = some (.tbl ps)) : DeckIn W F' H' :=
  ⟨fun p e => by
    have z := h.dk p e
    have i1 : InW W p.1 := .inl ⟨p, e, .inl rfl⟩
    have i2 : InW W p.2 := .inl ⟨p, e, .inr rfl⟩
    obtain ⟨ns, m, n, h1, h2, r⟩ := z.st
    exact ⟨by rw [hf _ i1]; exact z.fd, by rw [hf _ i2]; exact z.fl, z.ne, ns, m, n, by rw [hh _ i1]; exact h1, by rw [hh _ i2]; exact h2, r⟩,
  fun x hx => by
    rw [hf _ (.inr ⟨x, hx, rfl⟩)]
    exact h.tf x hx,
  fun x hx => by
    obtain ⟨ps, h1, h2, h3⟩ := h.tb x hx
    refine ⟨ps, by rw [hh _ (.inr ⟨x, hx, rfl⟩)]; exact h1, h2, fun pos cv hc => ?_⟩
    obtain ⟨c, e1, e2⟩ := h3 pos cv hc
    exact ⟨c, e1, ex c _ e2⟩, nf, fun a ps e => h.ot a ps (ot a ps e)⟩
theorem ot_upd {H : Hp} {p : Addr} {o : HO} (n : NT o) : ∀ a ps, upd H p o a = some (.tbl ps) → H a = some (.tbl ps) := fun a ps e => by
  by_cases z : a = p
  · subst z
    rw [upd_same] at e
    cases e
    exact absurd rfl (n ps)
  · rw [upd_ne z] at e
    exact e
theorem nf_upd {F : Hp} {p : Addr} {o : HO} (h : ∀ a o, F a = some o → NT o) (n : NT o) : ∀ a u, upd F p o a = some u → NT u := fun a u e => by
  by_cases z : a = p
  · subst z
    rw [upd_same] at e
    cases e
    exact n
  · rw [upd_ne z] at e
    exact h a u e

/-! ### growth -/
structure Grow (W : WT) (F H F' H' : Hp) : Prop where
  ff : Same F F'
  fh : Same F' H'
  hh : ∀ a o, H a = some o → ¬ InW W a → NT o → H' a = some o
  new : ∀ a, F a = none → H a ≠ none → F' a = none
  keep : ∀ a, H a ≠ none → H' a ≠ none
section
variable {W : WT} {F H F1 H1 F2 H2 : Hp} {p : Addr} {o : HO}
theorem Grow.refl (h : Same F H) : Grow W F H F H := ⟨Same.refl F, h, fun _ _ e _ _ => e, fun _ e _ => e, fun _ e => e⟩
theorem Grow.trans (a : Grow W F H F1 H1) (b : Grow W F1 H1 F2 H2) : Grow W F H F2 H2 :=
  ⟨a.ff.trans b.ff, b.fh, fun x o e w n => b.hh x o (a.hh x o e w n) w n, fun x e n => b.new x (a.new x e n) (a.keep x n), fun x n => b.keep x (a.keep x n)⟩
theorem Grow.back (g : Grow W F H F1 H1) {a : Addr} (h : H1 a = none) : H a = none := by
  cases e : H a with
  | none => rfl
  | some o => exact absurd h (g.keep a (by rw [e]; exact Option.some_ne_none _))
theorem upd_keep {H : Hp} {p a : Addr} {o : HO} (h : H a ≠ none) : upd H p o a ≠ none := by
  by_cases e : a = p
  · subst e
    rw [upd_same]
    exact Option.some_ne_none _
  · rw [upd_ne e]
    exact h
/-- a new tracked object -/
theorem Grow.laid (e : Same F H) (h : H p = none) : Grow W F H F (upd H p o) :=
  ⟨Same.refl F, e.trans (same_new h), fun a u q _ _ => same_new h a u q, fun _ q _ => q, fun _ q => upd_keep q⟩
theorem same_upd2 (e : Same F H) : Same (upd F p o) (upd H p o) := fun a u q => by
  by_cases z : a = p
  · subst z
    rw [upd_same] at q ⊢
    exact q
  · rw [upd_ne z] at q ⊢
    exact e a u q
/-- a new frozen object -/
theorem Grow.frz (e : Same F H) (h : H p = none) : Grow W F H (upd F p o) (upd H p o) :=
  ⟨same_new (e.free h), same_upd2 e, fun a u q _ _ => same_new h a u q, fun a q n => by
    have z : a ≠ p := fun z => n (by rw [z]; exact h)
    rw [upd_ne z]
    exact q, fun _ q => upd_keep q⟩
/-- what is new and tracked becomes frozen -/
theorem Grow.freeze {F' H' : Hp} (g : Grow W F H F' H') (hp : H p = none) (fp : F' p = none) (h : H' p = some o) : Grow W F H (upd F' p o) H' :=
  ⟨g.ff.trans (same_new fp), fun a u q => by
    by_cases z : a = p
    · subst z
      rw [upd_same] at q
      rw [h]
      exact q
    · rw [upd_ne z] at q
      exact g.fh a u q, g.hh, fun a q n => by
    have z : a ≠ p := fun z => n (by rw [z]; exact hp)
    rw [upd_ne z]
    exact g.new a q n, g.keep⟩
theorem DeckIn.freeze {F' H' : Hp} (d0 : DeckIn W F H) (d : DeckIn W F' H') (hp : H p = none) (nt : NT o := by intro _ z; cases z) : DeckIn W (upd F' p o) H' :=
  d.keep (fun a w => upd_ne fun z => (d0.w w).2 (by rw [z]; exact hp)) (fun _ _ => rfl) (fun _ _ e => e) (nf_upd d.nf nt) fun _ _ e => e
theorem DeckIn.laid (d : DeckIn W F H) (h : H p = none) (nt : NT o := by intro _ z; cases z) : DeckIn W F (upd H p o) :=
  d.keep (fun _ _ => rfl) (fun a w => upd_ne fun z => (d.w w).2 (by rw [z]; exact h)) (fun a φ e => by rw [upd_ne (ne_of_none e h)]; exact e) d.nf (ot_upd nt)
theorem DeckIn.frz (d : DeckIn W F H) (h : H p = none) (nt : NT o := by intro _ z; cases z) : DeckIn W (upd F p o) (upd H p o) :=
  d.keep (fun a w => upd_ne fun z => (d.w w).2 (by rw [z]; exact h)) (fun a w => upd_ne fun z => (d.w w).2 (by rw [z]; exact h)) (fun a φ e => by rw [upd_ne (ne_of_none e h)]; exact e) (nf_upd d.nf nt) (ot_upd nt)
end

/-! ### the state of a body -/
/-- a slot: nothing known, data, a list or a dict of one's own -/
inductive SV where
  | no | d (x : D) | ol (xs : List D) | od (kvs : List (Key × D))
  | oo (p : Addr) (C : Str) (fs : List (Str × D))
/-- where a body began -/
structure Bs where
  W : WT
  F : Hp
  H : Hp
def SlotR (K : Kn) (F H : Hp) : SV → Option Addr → Option V → Prop
  | .no, none, _ => True
  | .d x, none, some v => Rep K F v x
  | .ol xs, some a, some v => v = .ref a ∧ ∃ vs, H a = some (.lst vs) ∧ Reps K F vs xs
  | .od ks, some a, some v => v = .ref a ∧ ∃ vs, H a = some (.dK vs) ∧ RepKs K F vs ks
  | .oo p n fs, some a, some v => a = p ∧ v = .ref a ∧ ∃ C dx vs, K.mg n = some (.ref C) ∧ H a = some (.ins C dx vs) ∧ RepFs K F vs fs
  | _, _, _ => False
structure Own (B : Bs) (F : Hp) (own : Nat → Option Addr) : Prop where
  inj : ∀ i j a, own i = some a → own j = some a → i = j
  free : ∀ i a, own i = some a → B.H a = none ∧ F a = none
structure Rel (B : Bs) (K : Kn) (σ : List SV) (s : L2.St) (F H : Hp) : Prop where
  base : Grow B.W B.F B.H F H
  bdk : DeckIn B.W B.F B.H
  deck : DeckIn B.W F H
  len : σ.length = s.length
  slots : ∃ own, Own B F own ∧ ∀ (i : Nat) x v, σ[i]? = some x → s[i]? = some v → SlotR K F H x (own i) v
section
variable {B : Bs} {K : Kn} {σ : List SV} {s : L2.St} {F H F' H' : Hp}
theorem Rel.ex (R : Rel B K σ s F H) : Same F H := R.base.fh
theorem Own.notW {own : Nat → Option Addr} (O : Own B F own) (R : DeckIn B.W B.F B.H) {i : Nat} {a : Addr} (h : own i = some a) : ¬ InW B.W a := fun w => (R.w w).2 (O.free i a h).1
theorem SlotR.mono {x : SV} {w : Option Addr} {v : Option V} (h : SlotR K F H x w v) (e : Same F F') (k : ∀ a o, w = some a → H a = some o → NT o → H' a = some o) : SlotR K F' H' x w v := by
  cases x <;> cases w <;> cases v <;> first
    | exact h
    | exact False.elim h
    | skip
  · exact Rep.mono e h
  · obtain ⟨h1, vs, h2, h3⟩ := h
    exact ⟨h1, vs, k _ _ rfl h2 (by intro _ z; cases z), Reps.mono e h3⟩
  · obtain ⟨h1, vs, h2, h3⟩ := h
    exact ⟨h1, vs, k _ _ rfl h2 (by intro _ z; cases z), RepKs.mono e h3⟩
  · obtain ⟨h0, h1, C, dx, vs, hn, h2, h3⟩ := h
    exact ⟨h0, h1, C, dx, vs, hn, k _ _ rfl h2 (by intro _ z; cases z), RepFs.mono e h3⟩
theorem SlotR.there {x : SV} {a : Addr} {v : Option V} (h : SlotR K F H x (some a) v) : H a ≠ none := by
  cases x <;> cases v <;> first
    | exact False.elim h
    | (obtain ⟨_, vs, h2, _⟩ := h; rw [h2]; exact Option.some_ne_none _)
    | (obtain ⟨_, _, C, dx, vs, _, h2, _⟩ := h; rw [h2]; exact Option.some_ne_none _)
theorem Rel.grow (R : Rel B K σ s F H) (g : Grow B.W F H F' H') (d : DeckIn B.W F' H') : Rel B K σ s F' H' := by
  obtain ⟨own, O, h⟩ := R.slots
  have key : ∀ i x, σ[i]? = some x → ∃ v, s[i]? = some v := fun i x e => by
    have h1 : i < s.length := by rw [← R.len]; exact (List.getElem?_eq_some_iff.mp e).1
    exact ⟨s[i], List.getElem?_eq_getElem h1⟩
  -- an owned address out of the slots is of no use: forget it
  refine ⟨R.base.trans g, R.bdk, d, R.len, fun i => if i < σ.length then own i else none, ⟨fun i j a e1 e2 => ?_, fun i a e => ?_⟩, fun i x v e1 e2 => ?_⟩
  · split at e1 <;> split at e2 <;> first | exact O.inj i j a e1 e2 | cases e1 | cases e2
  · split at e
    · rename_i hi
      obtain ⟨h1, h2⟩ := O.free i a e
      refine ⟨h1, g.new a h2 ?_⟩
      obtain ⟨v, ev⟩ := key i σ[i] (by simp [hi])
      have q := h i σ[i] v (by simp [hi]) ev
      rw [e] at q
      exact q.there
    · cases e
  · have hi : i < σ.length := (List.getElem?_eq_some_iff.mp e1).1
    dsimp only
    rw [if_pos hi]
    exact (h i x v e1 e2).mono g.ff fun a o e q n => g.hh a o q (O.notW R.bdk e) n
/-- a slot takes data -/
theorem Rel.set (R : Rel B K σ s F H) {i : Nat} {v : V} {x : D} (h : Rep K F v x) : Rel B K (σ.set i (.d x)) (s.set i (some v)) F H := by
  obtain ⟨own, O, q⟩ := R.slots
  refine ⟨R.base, R.bdk, R.deck, by rw [List.length_set, List.length_set]; exact R.len, fun j => if j = i then none else own j, ⟨fun a b c e1 e2 => ?_, fun a b e => ?_⟩, fun j y u e1 e2 => ?_⟩
  · split at e1 <;> split at e2 <;> first | exact O.inj a b c e1 e2 | cases e1 | cases e2
  · split at e
    · cases e
    · exact O.free a b e
  · by_cases z : j = i
    · subst z
      have h1 : j < σ.length := by
        have := (List.getElem?_eq_some_iff.mp e1).1
        rwa [List.length_set] at this
      have h2 : j < s.length := by rw [← R.len]; exact h1
      rw [List.getElem?_set_self h1] at e1
      rw [List.getElem?_set_self h2] at e2
      cases e1
      cases e2
      dsimp only
      rw [if_pos rfl]
      exact h
    · rw [List.getElem?_set_ne (Ne.symm z)] at e1 e2
      dsimp only
      rw [if_neg z]
      exact q j y u e1 e2
/-- a slot is forgotten -/
theorem Rel.drop (R : Rel B K σ s F H) {i : Nat} {v : Option V} : Rel B K (σ.set i .no) (s.set i v) F H := by
  obtain ⟨own, O, q⟩ := R.slots
  refine ⟨R.base, R.bdk, R.deck, by rw [List.length_set, List.length_set]; exact R.len, fun j => if j = i then none else own j, ⟨fun a b c e1 e2 => ?_, fun a b e => ?_⟩, fun j y u e1 e2 => ?_⟩
  · split at e1 <;> split at e2 <;> first | exact O.inj a b c e1 e2 | cases e1 | cases e2
  · split at e
    · cases e
    · exact O.free a b e
  · by_cases z : j = i
    · subst z
      have h1 : j < σ.length := by
        have := (List.getElem?_eq_some_iff.mp e1).1
        rwa [List.length_set] at this
      rw [List.getElem?_set_self h1] at e1
      cases e1
      dsimp only
      rw [if_pos rfl]
      trivial
    · rw [List.getElem?_set_ne (Ne.symm z)] at e1 e2
      dsimp only
      rw [if_neg z]
      exact q j y u e1 e2
/-- a slot takes a new object of one's own -/
theorem Rel.setNew (R : Rel B K σ s F H) {i : Nat} {p : Addr} {x : SV} (g : Grow B.W F H F' H') (dk : DeckIn B.W F' H') (hp : H p = none) (fp : F' p = none) (h : SlotR K F' H' x (some p) (some (.ref p))) : Rel B K (σ.set i x) (s.set i (some (.ref p))) F' H' := by
  have R2 := R.grow g dk
  obtain ⟨own, O, q⟩ := R.slots
  have nop : ∀ j a, j < σ.length → own j = some a → H a ≠ none := fun j a hj e => by
    have h2 : j < s.length := by rw [← R.len]; exact hj
    have w := q j σ[j] s[j] (by simp [hj]) (by simp [h2])
    rw [e] at w
    exact w.there
  have bp : B.H p = none := R.base.back hp
  refine ⟨R2.base, R.bdk, R2.deck, by rw [List.length_set, List.length_set]; exact R.len, fun j => if j = i then some p else if j < σ.length then own j else none, ⟨fun a b c e1 e2 => ?_, fun a b e => ?_⟩, fun j y u e1 e2 => ?_⟩
  · split at e1 <;> split at e2 <;> (try split at e1) <;> (try split at e2) <;> (try cases e1) <;> (try cases e2) <;> (try subst_vars) <;> first
      | rfl
      | exact absurd hp (nop _ _ (by assumption) (by assumption))
      | (exact O.inj _ _ _ (by assumption) (by assumption))
  · split at e
    · cases e
      exact ⟨bp, fp⟩
    · split at e
      · rename_i hl
        obtain ⟨h1, h2⟩ := O.free a b e
        exact ⟨h1, g.new b h2 (nop a b hl e)⟩
      · cases e
  · by_cases z : j = i
    · subst z
      have h1 : j < σ.length := by
        have := (List.getElem?_eq_some_iff.mp e1).1
        rwa [List.length_set] at this
      have h2 : j < s.length := by rw [← R.len]; exact h1
      rw [List.getElem?_set_self h1] at e1
      rw [List.getElem?_set_self h2] at e2
      cases e1
      cases e2
      dsimp only
      rw [if_pos rfl]
      exact h
    · rw [List.getElem?_set_ne (Ne.symm z)] at e1 e2
      have hj : j < σ.length := (List.getElem?_eq_some_iff.mp e1).1
      dsimp only
      rw [if_neg z, if_pos hj]
      exact (q j y u e1 e2).mono g.ff fun a o' e w n => g.hh a o' w (O.notW R.bdk e) n
/-- what a slot with an object of one's own holds -/
theorem Rel.ownL (R : Rel B K σ s F H) {i : Nat} {xs : List D} (h : σ[i]? = some (.ol xs)) : ∃ a vs, s[i]? = some (some (.ref a)) ∧ H a = some (.lst vs) ∧ Reps K F vs xs ∧ ¬ InW B.W a ∧ F a = none ∧ B.H a = none := by
  obtain ⟨own, O, q⟩ := R.slots
  have h1 : i < s.length := by rw [← R.len]; exact (List.getElem?_eq_some_iff.mp h).1
  have w := q i _ s[i] h (by simp [h1])
  cases e : own i with
  | none =>
    rw [e] at w
    exact False.elim (by cases s[i] <;> exact w)
  | some a =>
    rw [e] at w
    cases e2 : s[i] with
    | none =>
      rw [e2] at w
      exact False.elim w
    | some v =>
      rw [e2] at w
      obtain ⟨rfl, vs, h2, h3⟩ := w
      exact ⟨a, vs, by rw [List.getElem?_eq_getElem h1, e2], h2, h3, O.notW R.bdk e, (O.free i a e).2, (O.free i a e).1⟩
theorem Rel.ownD (R : Rel B K σ s F H) {i : Nat} {xs : List (Key × D)} (h : σ[i]? = some (.od xs)) : ∃ a vs, s[i]? = some (some (.ref a)) ∧ H a = some (.dK vs) ∧ RepKs K F vs xs ∧ ¬ InW B.W a ∧ F a = none ∧ B.H a = none := by
  obtain ⟨own, O, q⟩ := R.slots
  have h1 : i < s.length := by rw [← R.len]; exact (List.getElem?_eq_some_iff.mp h).1
  have w := q i _ s[i] h (by simp [h1])
  cases e : own i with
  | none =>
    rw [e] at w
    exact False.elim (by cases s[i] <;> exact w)
  | some a =>
    rw [e] at w
    cases e2 : s[i] with
    | none =>
      rw [e2] at w
      exact False.elim w
    | some v =>
      rw [e2] at w
      obtain ⟨rfl, vs, h2, h3⟩ := w
      exact ⟨a, vs, by rw [List.getElem?_eq_getElem h1, e2], h2, h3, O.notW R.bdk e, (O.free i a e).2, (O.free i a e).1⟩
theorem Rel.ownO (R : Rel B K σ s F H) {i : Nat} {a : Addr} {n : Str} {xs : List (Str × D)} (h : σ[i]? = some (.oo a n xs)) : ∃ C dx vs, s[i]? = some (some (.ref a)) ∧ K.mg n = some (.ref C) ∧ H a = some (.ins C dx vs) ∧ RepFs K F vs xs ∧ ¬ InW B.W a ∧ F a = none ∧ B.H a = none := by
  obtain ⟨own, O, q⟩ := R.slots
  have h1 : i < s.length := by rw [← R.len]; exact (List.getElem?_eq_some_iff.mp h).1
  have w := q i _ s[i] h (by simp [h1])
  cases e : own i with
  | none =>
    rw [e] at w
    exact False.elim (by cases s[i] <;> exact w)
  | some a' =>
    rw [e] at w
    cases e2 : s[i] with
    | none =>
      rw [e2] at w
      exact False.elim w
    | some v =>
      rw [e2] at w
      obtain ⟨rfl, rfl, C, dx, vs, hn, h2, h3⟩ := w
      exact ⟨C, dx, vs, by rw [List.getElem?_eq_getElem h1, e2], hn, h2, h3, O.notW R.bdk e, (O.free i _ e).2, (O.free i _ e).1⟩
theorem Rel.dat (R : Rel B K σ s F H) {i : Nat} {x : D} (h : σ[i]? = some (.d x)) : ∃ v, s[i]? = some (some v) ∧ Rep K F v x := by
  obtain ⟨own, O, q⟩ := R.slots
  have h1 : i < s.length := by rw [← R.len]; exact (List.getElem?_eq_some_iff.mp h).1
  have w := q i _ s[i] h (by simp [h1])
  cases e : own i with
  | some a =>
    rw [e] at w
    exact False.elim (by cases s[i] <;> exact w)
  | none =>
    rw [e] at w
    cases e2 : s[i] with
    | none =>
      rw [e2] at w
      exact False.elim w
    | some v =>
      rw [e2] at w
      exact ⟨v, by rw [List.getElem?_eq_getElem h1, e2], w⟩
/-- an object of one's own is written -/
theorem Rel.write (R : Rel B K σ s F H) {i : Nat} {a : Addr} {o : HO} {x y : SV} (hx : σ[i]? = some y) (hy : (∃ xs, y = .ol xs) ∨ (∃ ks, y = .od ks) ∨ ∃ p n fs, y = .oo p n fs) (hs : s[i]? = some (some (.ref a))) (h : SlotR K F (upd H a o) x (some a) (some (.ref a))) (nt : NT o := by intro _ z; cases z) : Rel B K (σ.set i x) s F (upd H a o) := by
  obtain ⟨own, O, q⟩ := R.slots
  have w := q i _ _ hx hs
  have hi : i < σ.length := (List.getElem?_eq_some_iff.mp hx).1
  have eo : own i = some a := by
    cases e : own i with
    | none =>
      rw [e] at w
      rcases hy with ⟨_, rfl⟩ | ⟨_, rfl⟩ | ⟨_, _, _, rfl⟩ <;> exact False.elim w
    | some b =>
      rw [e] at w
      rcases hy with ⟨_, rfl⟩ | ⟨_, rfl⟩ | ⟨_, _, _, rfl⟩
      · obtain ⟨e2, _⟩ := w
        cases e2
        rfl
      · obtain ⟨e2, _⟩ := w
        cases e2
        rfl
      · obtain ⟨_, e2, _⟩ := w
        cases e2
        rfl
  obtain ⟨b0, f0⟩ := O.free i a eo
  have nw := O.notW R.bdk eo
  have nx : ∀ φ, H a ≠ some (.ext φ) := fun φ z => by
    rw [eo] at w
    rcases hy with ⟨_, rfl⟩ | ⟨_, rfl⟩ | ⟨_, _, _, rfl⟩
    · obtain ⟨_, _, e2, _⟩ := w
      rw [z] at e2
      cases e2
    · obtain ⟨_, _, e2, _⟩ := w
      rw [z] at e2
      cases e2
    · obtain ⟨_, _, _, _, _, _, e2, _⟩ := w
      rw [z] at e2
      cases e2
  have nb : ∀ b u, B.H b = some u → b ≠ a := fun b u e z => by rw [z, b0] at e; cases e
  refine ⟨⟨R.base.ff, fun b u e => ?_, fun b u e n nt' => ?_, R.base.new, fun b n => upd_keep (R.base.keep b n)⟩, R.bdk, R.deck.keep (fun _ _ => rfl) (fun b z => upd_ne fun e => nw (by rw [← e]; exact z)) (fun b φ e => by rw [upd_ne (fun z => nx φ (by rw [← z]; exact e))]; exact e) R.deck.nf (ot_upd nt), by rw [List.length_set]; exact R.len, own, O, fun j y' u e1 e2 => ?_⟩
  · have z : b ≠ a := fun z => by rw [z, f0] at e; cases e
    rw [upd_ne z]
    exact R.ex b u e
  · rw [upd_ne (nb b u e)]
    exact R.base.hh b u e n nt'
  · by_cases z : j = i
    · subst z
      rw [List.getElem?_set_self hi] at e1
      cases e1
      rw [hs] at e2
      cases e2
      rw [eo]
      exact h
    · rw [List.getElem?_set_ne (Ne.symm z)] at e1
      refine (q j y' u e1 e2).mono (Same.refl F) fun c o' e k _ => ?_
      have nc : c ≠ a := fun z' => z (O.inj j i c e (by rw [z']; exact eo))
      rw [upd_ne nc]
      exact k
/-- an object of one's own becomes data -/
theorem Rel.freeze (R : Rel B K σ s F H) {i : Nat} {a : Addr} {o : HO} {y : SV} {x : D} (hx : σ[i]? = some y) (hs : s[i]? = some (some (.ref a))) (ha : H a = some o) (hf : F a = none) (hb : B.H a = none) (hw : ¬ InW B.W a) (hy : (∃ xs, y = .ol xs) ∨ (∃ ks, y = .od ks) ∨ ∃ p n fs, y = .oo p n fs)
    (h : Rep K (upd F a o) (.ref a) x) (nt : NT o := by intro _ z; cases z) : Rel B K (σ.set i (.d x)) s (upd F a o) H := by
  obtain ⟨own, O, q⟩ := R.slots
  have hi : i < σ.length := (List.getElem?_eq_some_iff.mp hx).1
  have w := q i _ _ hx hs
  have eo : own i = some a := by
    cases e : own i with
    | none =>
      rw [e] at w
      rcases hy with ⟨_, rfl⟩ | ⟨_, rfl⟩ | ⟨_, _, _, rfl⟩ <;> exact False.elim w
    | some b =>
      rw [e] at w
      rcases hy with ⟨_, rfl⟩ | ⟨_, rfl⟩ | ⟨_, _, _, rfl⟩
      · obtain ⟨e2, _⟩ := w
        cases e2
        rfl
      · obtain ⟨e2, _⟩ := w
        cases e2
        rfl
      · obtain ⟨_, e2, _⟩ := w
        cases e2
        rfl
  have sm : Same F (upd F a o) := same_new hf
  refine ⟨⟨R.base.ff.trans sm, fun b u e => ?_, R.base.hh, fun b e n => ?_, R.base.keep⟩, R.bdk, R.deck.keep (fun b z => upd_ne fun e => hw (by rw [← e]; exact z)) (fun _ _ => rfl) (fun _ _ e => e) (nf_upd R.deck.nf nt) fun _ _ e => e, by rw [List.length_set]; exact R.len,
    fun j => if j = i then none else own j, ⟨fun b c d e1 e2 => ?_, fun b c e => ?_⟩, fun j y' u e1 e2 => ?_⟩
  · by_cases z : b = a
    · subst z
      rw [upd_same] at e
      rw [ha]
      exact e
    · rw [upd_ne z] at e
      exact R.ex b u e
  · have z : b ≠ a := fun z => n (by rw [z]; exact hb)
    rw [upd_ne z]
    exact R.base.new b e n
  · split at e1 <;> split at e2 <;> first | exact O.inj b c d e1 e2 | cases e1 | cases e2
  · split at e
    · cases e
    · rename_i nz
      obtain ⟨h1, h2⟩ := O.free b c e
      refine ⟨h1, ?_⟩
      have z : c ≠ a := fun z => nz (O.inj b i c e (by rw [z]; exact eo))
      rw [upd_ne z]
      exact h2
  · by_cases z : j = i
    · subst z
      rw [List.getElem?_set_self hi] at e1
      cases e1
      rw [hs] at e2
      cases e2
      dsimp only
      rw [if_pos rfl]
      exact h
    · rw [List.getElem?_set_ne (Ne.symm z)] at e1
      dsimp only
      rw [if_neg z]
      exact (q j y' u e1 e2).mono sm fun _ _ _ k _ => k
end
end ND

/-! ND2: expressions -/
namespace ND
open PySem PySem.Spec L2

/-! ### judgements -/
abbrev _root_.L2.Cx.kn (X : Cx) : Kn := ⟨X.K, X.mg⟩
abbrev GE := List SV → (D → Prop) → Prop
abbrev GT := List SV → (Bool → Prop) → Prop
abbrev GA := List SV → (List D → Prop) → Prop
/-- what is borrowed: data, or an object of one's own as it stands -/
def RepB (W : WT) (K : Kn) (F H : Hp) (v : V) (d : D) : Prop :=
  Rep K F v d ∨ (∃ a ds vs, v = .ref a ∧ d = .lst ds ∧ ¬ InW W a ∧ H a = some (.lst vs) ∧ Reps K F vs ds) ∨ ∃ a ds vs, v = .ref a ∧ d = .dic ds ∧ ¬ InW W a ∧ H a = some (.dK vs) ∧ RepKs K F vs ds
theorem RepB.grow {W : WT} {K : Kn} {F H F' H' : Hp} {v : V} {d : D} (h : RepB W K F H v d) (g : Grow W F H F' H') : RepB W K F' H' v d := by
  rcases h with h | ⟨a, ds, vs, e1, e2, n, e3, r⟩ | ⟨a, ds, vs, e1, e2, n, e3, r⟩
  · exact .inl (h.mono g.ff)
  · exact .inr (.inl ⟨a, ds, vs, e1, e2, n, g.hh _ _ e3 n (by intro _ z; cases z), r.mono g.ff⟩)
  · exact .inr (.inr ⟨a, ds, vs, e1, e2, n, g.hh _ _ e3 n (by intro _ z; cases z), r.mono g.ff⟩)
theorem RepB.lst {W : WT} {K : Kn} {F H : Hp} {v : V} {ds : List D} (h : RepB W K F H v (.lst ds)) (e : Same F H) : ∃ a vs, v = .ref a ∧ H a = some (.lst vs) ∧ Reps K F vs ds := by
  rcases h with h | ⟨a, ds', vs, e1, e2, n, e3, r⟩ | ⟨a, ds', vs, e1, e2, n, e3, r⟩
  · cases h with
    | lst h r => exact ⟨_, _, rfl, e _ _ h, r⟩
  · cases e2
    exact ⟨a, vs, e1, e3, r⟩
  · cases e2
theorem RepB.dic {W : WT} {K : Kn} {F H : Hp} {v : V} {ds : List (Key × D)} (h : RepB W K F H v (.dic ds)) (e : Same F H) : ∃ a vs, v = .ref a ∧ H a = some (.dK vs) ∧ RepKs K F vs ds := by
  rcases h with h | ⟨a, ds', vs, e1, e2, n, e3, r⟩ | ⟨a, ds', vs, e1, e2, n, e3, r⟩
  · cases h with
    | dic h r => exact ⟨_, _, rfl, e _ _ h, r⟩
  · cases e2
  · cases e2
    exact ⟨a, vs, e1, e3, r⟩
theorem RepB.tup {W : WT} {K : Kn} {F H : Hp} {v : V} {ds : List D} (h : RepB W K F H v (.tup ds)) (e : Same F H) : ∃ a vs, v = .ref a ∧ SqT K.K F a vs ∧ SqT K.K H a vs ∧ Reps K F vs ds := by
  rcases h with h | ⟨a, ds', vs, e1, e2, n, e3, r⟩ | ⟨a, ds', vs, e1, e2, n, e3, r⟩
  · cases h with
    | tup h r => exact ⟨_, _, rfl, h, same_t e h, r⟩
  · cases e2
  · cases e2
theorem RepB.int {W : WT} {K : Kn} {F H : Hp} {v : V} {i : Int} (h : RepB W K F H v (.int i)) : v = .int i := by
  rcases h with h | ⟨a, ds', vs, e1, e2, n, e3, r⟩ | ⟨a, ds', vs, e1, e2, n, e3, r⟩
  · cases h
    rfl
  · cases e2
  · cases e2
theorem RepB.bl {W : WT} {K : Kn} {F H : Hp} {v : V} {i : Bool} (h : RepB W K F H v (.bl i)) : v = .bl i := by
  rcases h with h | ⟨a, ds', vs, e1, e2, n, e3, r⟩ | ⟨a, ds', vs, e1, e2, n, e3, r⟩
  · cases h
    rfl
  · cases e2
  · cases e2
theorem RepB.str {W : WT} {K : Kn} {F H : Hp} {v : V} {i : Str} (h : RepB W K F H v (.str i)) : v = .str i := by
  rcases h with h | ⟨a, ds', vs, e1, e2, n, e3, r⟩ | ⟨a, ds', vs, e1, e2, n, e3, r⟩
  · cases h
    rfl
  · cases e2
  · cases e2
theorem RepB.non {W : WT} {K : Kn} {F H : Hp} {v : V} (h : RepB W K F H v .non) : v = .non := by
  rcases h with h | ⟨a, ds', vs, e1, e2, n, e3, r⟩ | ⟨a, ds', vs, e1, e2, n, e3, r⟩
  · cases h
    rfl
  · cases e2
  · cases e2
theorem RepB.opq {W : WT} {K : Kn} {F H : Hp} {v u : V} (h : RepB W K F H v (.opq u)) : v = u := by
  rcases h with h | ⟨a, ds', vs, e1, e2, n, e3, r⟩ | ⟨a, ds', vs, e1, e2, n, e3, r⟩
  · cases h
    rfl
  · cases e2
  · cases e2
theorem RepB.obj {W : WT} {K : Kn} {F H : Hp} {v : V} {n : Str} {ds : List (Str × D)} (h : RepB W K F H v (.obj n ds)) (e : Same F H) : ∃ a C dx fs, K.mg n = some (.ref C) ∧ v = .ref a ∧ H a = some (.ins C dx fs) ∧ RepFs K F fs ds := by
  rcases h with h | ⟨a, ds', vs, e1, e2, n, e3, r⟩ | ⟨a, ds', vs, e1, e2, n, e3, r⟩
  · cases h with
    | obj n h r => exact ⟨_, _, _, _, n, rfl, e _ _ h, r⟩
  · cases e2
  · cases e2

/-- the data Qd are wanted: so is Q of each value that is one of them -/
def Fin (B : Bs) (K : Kn) (F H : Hp) (Qd : D → Prop) (Q : VK) : Prop := ∀ d, Qd d → ∀ F' H' v, Grow B.W F H F' H' → DeckIn B.W F' H' → Rep K F' v d → Q v H'
def FinB (B : Bs) (K : Kn) (F H : Hp) (Qd : D → Prop) (Q : VK) : Prop := ∀ d, Qd d → ∀ F' H' v, Grow B.W F H F' H' → DeckIn B.W F' H' → RepB B.W K F' H' v d → Q v H'
def FinT (B : Bs) (F H : Hp) (Qd : Bool → Prop) (Q : Bool → Hp → Prop) : Prop := ∀ b, Qd b → ∀ F' H', Grow B.W F H F' H' → DeckIn B.W F' H' → Q b H'
def FinA (B : Bs) (K : Kn) (F H : Hp) (Qd : List D → Prop) (Q : List V → Hp → Prop) : Prop := ∀ ds, Qd ds → ∀ F' H' vs, Grow B.W F H F' H' → DeckIn B.W F' H' → Reps K F' vs ds → Q vs H'
inductive RepBs (W : WT) (K : Kn) (F H : Hp) : List V → List D → Prop
  | nil : RepBs W K F H [] []
  | cons {v : V} {vs : List V} {d : D} {ds : List D} : RepB W K F H v d → RepBs W K F H vs ds → RepBs W K F H (v :: vs) (d :: ds)
def FinAB (B : Bs) (K : Kn) (F H : Hp) (Qd : List D → Prop) (Q : List V → Hp → Prop) : Prop := ∀ ds, Qd ds → ∀ F' H' vs, Grow B.W F H F' H' → DeckIn B.W F' H' → RepBs B.W K F' H' vs ds → Q vs H'
/-- a new list, not frozen yet -/
def FinF (B : Bs) (K : Kn) (F H : Hp) (Qd : List D → Prop) (Q : VK) : Prop := ∀ ds, Qd ds → ∀ F' H' p vs, Grow B.W F H F' H' → DeckIn B.W F' H' → H p = none → F' p = none → H' p = some (.lst vs) → Reps K F' vs ds → Q (.ref p) H'

def LE (B : Bs) (K : Kn) (f : GE) : TE := fun s H Q => ∃ σ F Qd, Rel B K σ s F H ∧ f σ Qd ∧ Fin B K F H Qd Q
def LB (B : Bs) (K : Kn) (f : GE) : TE := fun s H Q => ∃ σ F Qd, Rel B K σ s F H ∧ f σ Qd ∧ FinB B K F H Qd Q
def LF (B : Bs) (K : Kn) (f : GA) : TE := fun s H Q => ∃ σ F Qd, Rel B K σ s F H ∧ f σ Qd ∧ FinF B K F H Qd Q
def LT (B : Bs) (K : Kn) (f : GT) : TT := fun s H Q => ∃ σ F Qd, Rel B K σ s F H ∧ f σ Qd ∧ FinT B F H Qd Q
def LA (B : Bs) (K : Kn) (f : GA) : TA := fun s H Q => ∃ σ F Qd, Rel B K σ s F H ∧ f σ Qd ∧ FinA B K F H Qd Q
def LAB (B : Bs) (K : Kn) (f : GA) : TA := fun s H Q => ∃ σ F Qd, Rel B K σ s F H ∧ f σ Qd ∧ FinAB B K F H Qd Q
/-- an expression gives data | may be borrowed | gives a new list | a test | arguments -/
structure ED (B : Bs) (X : Cx) (e : Expr) (f : GE) : Prop where
  run : PE X e (LE B X.kn f)
structure BD (B : Bs) (X : Cx) (e : Expr) (f : GE) : Prop where
  run : PE X e (LB B X.kn f)
structure FD (B : Bs) (X : Cx) (e : Expr) (f : GA) : Prop where
  run : PE X e (LF B X.kn f)
structure TD (B : Bs) (X : Cx) (e : Expr) (f : GT) : Prop where
  run : PT X e (LT B X.kn f)
structure WDd (B : Bs) (X : Cx) (e : Expr) (f : GT) : Prop where
  run : PW X e (LT B X.kn f)
structure AD (B : Bs) (X : Cx) (es : List Expr) (f : GA) : Prop where
  run : PA X es (LA B X.kn f)
structure ABD (B : Bs) (X : Cx) (es : List Expr) (f : GA) : Prop where
  run : PA X es (LAB B X.kn f)

theorem pe_imp {X : Cx} {e : Expr} {t t' : TE} (h : PE X e t) (w : ∀ s H Q, t' s H Q → t s H Q) : PE X e t' := ⟨fun pins s σ H Q I q => h.run pins s σ H Q I (w _ _ _ q)⟩
theorem pt_imp {X : Cx} {e : Expr} {t t' : TT} (h : PT X e t) (w : ∀ s H Q, t' s H Q → t s H Q) : PT X e t' := ⟨fun pins s σ H Q I q => h.run pins s σ H Q I (w _ _ _ q)⟩
theorem pw_imp {X : Cx} {e : Expr} {t t' : TT} (h : PW X e t) (w : ∀ s H Q, t' s H Q → t s H Q) : PW X e t' := ⟨fun wh pins s σ H Q I q => h.run wh pins s σ H Q I (w _ _ _ q)⟩
theorem pa_imp {X : Cx} {e : List Expr} {t t' : TA} (h : PA X e t) (w : ∀ s H Q, t' s H Q → t s H Q) : PA X e t' := ⟨fun pos pins s σ H Q I q => h.run pos pins s σ H Q I (w _ _ _ q)⟩

section
variable {B : Bs} {X : Cx} {e a b c : Expr} {es : List Expr} {f fa fb fc : GE} {pos : Pos}
theorem Fin.more {K : Kn} {F H F' H' : Hp} {Qd : D → Prop} {Q : VK} (h : Fin B K F H Qd Q) (g : Grow B.W F H F' H') : Fin B K F' H' Qd Q := fun d q F2 H2 v g2 dk r => h d q F2 H2 v (g.trans g2) dk r
theorem FinB.more {K : Kn} {F H F' H' : Hp} {Qd : D → Prop} {Q : VK} (h : FinB B K F H Qd Q) (g : Grow B.W F H F' H') : FinB B K F' H' Qd Q := fun d q F2 H2 v g2 dk r => h d q F2 H2 v (g.trans g2) dk r
theorem FinT.more {F H F' H' : Hp} {Qd : Bool → Prop} {Q : Bool → Hp → Prop} (h : FinT B F H Qd Q) (g : Grow B.W F H F' H') : FinT B F' H' Qd Q := fun d q F2 H2 g2 dk => h d q F2 H2 (g.trans g2) dk
theorem FinA.more {K : Kn} {F H F' H' : Hp} {Qd : List D → Prop} {Q : List V → Hp → Prop} (h : FinA B K F H Qd Q) (g : Grow B.W F H F' H') : FinA B K F' H' Qd Q := fun d q F2 H2 v g2 dk r => h d q F2 H2 v (g.trans g2) dk r
theorem FinAB.more {K : Kn} {F H F' H' : Hp} {Qd : List D → Prop} {Q : List V → Hp → Prop} (h : FinAB B K F H Qd Q) (g : Grow B.W F H F' H') : FinAB B K F' H' Qd Q := fun d q F2 H2 v g2 dk r => h d q F2 H2 v (g.trans g2) dk r
theorem FinF.more {K : Kn} {F H F' H' : Hp} {Qd : List D → Prop} {Q : VK} (h : FinF B K F H Qd Q) (g : Grow B.W F H F' H') : FinF B K F' H' Qd Q := fun d q F2 H2 p vs g2 dk hp fp e r => h d q F2 H2 p vs (g.trans g2) dk (g.back hp) fp e r
/-- a list just laid -/
theorem FinF.laid {K : Kn} {F H : Hp} {Qd : List D → Prop} {Q : VK} (h : FinF B K F H Qd Q) (e : Same F H) (dk : DeckIn B.W F H) {ds : List D} {p : Addr} {vs : List V} (q : Qd ds) (hp : H p = none) (r : Reps K F vs ds) : Q (.ref p) (upd H p (.lst vs)) :=
  h ds q F _ p vs (Grow.laid e hp) (dk.laid hp) hp (e.free hp) upd_same r

theorem ED.toB (h : ED B X e f) : BD B X e f := ⟨pe_imp h.run fun s H Q ⟨σ, F, Qd, R, q, k⟩ => ⟨σ, F, Qd, R, q, fun d qd F' H' v g dk r => k d qd F' H' v g dk (.inl r)⟩⟩
/-- a new list becomes data -/
@[simp] def gFrz (f : GA) (σ : List SV) (Q : D → Prop) : Prop := f σ fun ds => Q (.lst ds)
theorem fin_frz {K : Kn} {F H : Hp} {Qd : D → Prop} {Q : VK} (d0 : DeckIn B.W F H) (k : Fin B K F H Qd Q) : FinF B K F H (fun ds => Qd (.lst ds)) Q := fun ds qd F' H' p vs g dk hp fp e r =>
  k _ qd _ _ _ (g.freeze hp fp e) (d0.freeze dk hp) (.lst upd_same (r.mono (same_new fp)))
theorem FD.toE {f : GA} (h : FD B X e f) : ED B X e (gFrz f) := ⟨pe_imp h.run fun s H Q ⟨σ, F, Qd, R, q, k⟩ => ⟨σ, F, fun ds => Qd (.lst ds), R, q, fin_frz R.deck k⟩⟩
theorem FD.toB {f : GA} (h : FD B X e f) : BD B X e (gFrz f) := h.toE.toB

/-! ### names, constants -/
@[simp] def gVar (i : Nat) (σ : List SV) (Q : D → Prop) : Prop := match σ[i]? with | some (.d x) => Q x | _ => False
@[simp] def gVarB (i : Nat) (σ : List SV) (Q : D → Prop) : Prop := match σ[i]? with | some (.d x) => Q x | some (.ol xs) => Q (.lst xs) | some (.od ks) => Q (.dic ks) | _ => False
@[simp] def gC (d : D) (_ : List SV) (Q : D → Prop) : Prop := Q d
theorem ed_var (i : Nat) {x : Str} (h : PE X (.Name x pos) (tVar i)) : ED B X (.Name x pos) (gVar i) := ⟨pe_imp h fun s H Q ⟨σ, F, Qd, R, q, k⟩ => by
  unfold gVar at q
  split at q
  · rename_i x e
    obtain ⟨v, h1, h2⟩ := R.dat e
    exact ⟨v, h1, k _ q F H v (Grow.refl R.ex) R.deck h2⟩
  · exact q.elim⟩
theorem bd_var (i : Nat) {x : Str} (h : PE X (.Name x pos) (tVar i)) : BD B X (.Name x pos) (gVarB i) := ⟨pe_imp h fun s H Q ⟨σ, F, Qd, R, q, k⟩ => by
  unfold gVarB at q
  split at q
  · rename_i x e
    obtain ⟨v, h1, h2⟩ := R.dat e
    exact ⟨v, h1, k _ q F H v (Grow.refl R.ex) R.deck (.inl h2)⟩
  · rename_i xs e
    obtain ⟨a, vs, h1, h2, h3, h4, _⟩ := R.ownL e
    exact ⟨.ref a, h1, k _ q F H _ (Grow.refl R.ex) R.deck (.inr (.inl ⟨a, xs, vs, rfl, rfl, h4, h2, h3⟩))⟩
  · rename_i xs e
    obtain ⟨a, vs, h1, h2, h3, h4, _⟩ := R.ownD e
    exact ⟨.ref a, h1, k _ q F H _ (Grow.refl R.ex) R.deck (.inr (.inr ⟨a, xs, vs, rfl, rfl, h4, h2, h3⟩))⟩
  · exact q.elim⟩
/-- a value that is known -/
theorem ed_c {v : V} {d : D} (h : PE X e (tC v)) (r : ∀ F, Rep X.kn F v d) : ED B X e (gC d) := ⟨pe_imp h fun s H Q ⟨σ, F, Qd, R, q, k⟩ => k d q F H v (Grow.refl R.ex) R.deck (r F)⟩
theorem ed_int {i : Int} {j : Nat} : ED B X (.Constant (.int i) j pos) (gC (.int i)) := ed_c pe_int fun _ => .int i
theorem ed_bl {i : Bool} {j : Nat} : ED B X (.Constant (.bool i) j pos) (gC (.bl i)) := ed_c pe_bl fun _ => .bl i
theorem ed_non {j : Nat} : ED B X (.Constant .none j pos) (gC .non) := ed_c pe_non fun _ => .non
theorem ed_str {x : Str} {j : Nat} : ED B X (.Constant (.str x) j pos) (gC (.str x)) := ed_c pe_str fun _ => .str x

/-! ### two in a row -/
theorem lb_two {K : Kn} {s : L2.St} {σ : List SV} {F H : Hp} {R2 : V → V → Hp → Prop} {Qd : D → D → Prop} (R : Rel B K σ s F H) (q : fa σ fun x => fb σ fun y => Qd x y)
    (k : ∀ x y F' H' v u, Qd x y → Grow B.W F H F' H' → DeckIn B.W F' H' → RepB B.W K F' H' v x → RepB B.W K F' H' u y → R2 v u H') : LB B K fa s H fun v H1 => LB B K fb s H1 fun u H2 => R2 v u H2 :=
  ⟨σ, F, _, R, q, fun x qx F1 H1 v g1 d1 r1 => ⟨σ, F1, _, R.grow g1 d1, qx, fun y qy F2 H2 u g2 d2 r2 => k x y F2 H2 v u qy (g1.trans g2) d2 (r1.grow g2) r2⟩⟩
/-- an operation on values, by data -/
def LO2 (B : Bs) (K : Kn) (g : D → D → (D → Prop) → Prop) : R2 := fun v u H Q => ∃ F x y Qd, Same F H ∧ DeckIn B.W F H ∧ RepB B.W K F H v x ∧ RepB B.W K F H u y ∧ g x y Qd ∧ Fin B K F H Qd Q
def LO1 (B : Bs) (K : Kn) (g : D → (D → Prop) → Prop) : V → Hp → VK → Prop := fun v H Q => ∃ F x Qd, Same F H ∧ DeckIn B.W F H ∧ RepB B.W K F H v x ∧ g x Qd ∧ Fin B K F H Qd Q
@[simp] def gBin (g : D → D → (D → Prop) → Prop) (fa fb : GE) (σ : List SV) (Q : D → Prop) : Prop := fa σ fun x => fb σ fun y => g x y Q
@[simp] def gUn (g : D → (D → Prop) → Prop) (fa : GE) (σ : List SV) (Q : D → Prop) : Prop := fa σ fun x => g x Q
variable {g : D → D → (D → Prop) → Prop}
theorem lo2_of {K : Kn} {s : L2.St} {σ : List SV} {F H : Hp} {Qd : D → Prop} {Q : VK} (R : Rel B K σ s F H) (q : gBin g fa fb σ Qd) (k : Fin B K F H Qd Q) : tOp (LO2 B K g) (LB B K fa) (LB B K fb) s H Q :=
  lb_two (Qd := fun x y => g x y Qd) R q fun x y F' H' v u q g' d r1 r2 => ⟨F', x, y, Qd, g'.fh, d, r1, r2, q, k.more g'⟩
theorem ed_bin {op : Operator} (ho : OpR X (binaryOp op) (LO2 B X.kn g)) (ha : BD B X a fa) (hb : BD B X b fb) : ED B X (.BinOp a op b pos) (gBin g fa fb) :=
  ⟨pe_imp (pe_op ho ha.run hb.run) fun s H Q ⟨σ, F, Qd, R, q, k⟩ => lo2_of R q k⟩
theorem ed_un {op : UnaryOp} {g : D → (D → Prop) → Prop} (ho : UnR X (unaryOp op) (LO1 B X.kn g)) (ha : BD B X a fa) : ED B X (.UnaryOp op a pos) (gUn g fa) :=
  ⟨pe_imp (pe_un ho ha.run) fun s H Q ⟨σ, F, Qd, R, q, k⟩ => ⟨σ, F, _, R, q, fun x qx F1 H1 v g1 d1 r1 => ⟨F1, x, Qd, g1.fh, d1, r1, qx, k.more g1⟩⟩⟩
theorem opR_by {f : Value → Value → Sem Value} {r' : R2} (w : ∀ v u H Q, r' v u H Q → ∃ r, OpR X f r ∧ r v u H Q) : OpR X f r' := fun pins s σ H x y v u Q I rx ry q => by
  obtain ⟨r, h, q'⟩ := w _ _ _ _ q
  exact h pins s σ H x y v u Q I rx ry q'
theorem unR_by {f : Value → Sem Value} {r' : V → Hp → VK → Prop} (w : ∀ v H Q, r' v H Q → ∃ r, UnR X f r ∧ r v H Q) : UnR X f r' := fun pins s σ H x v Q I rx q => by
  obtain ⟨r, h, q'⟩ := w _ _ _ q
  exact h pins s σ H x v Q I rx q'
theorem Fin.here {K : Kn} {F H : Hp} {Qd : D → Prop} {Q : VK} (k : Fin B K F H Qd Q) (e : Same F H) (dk : DeckIn B.W F H) {d : D} {v : V} (q : Qd d) (r : Rep K F v d) : Q v H := k d q F H v (Grow.refl e) dk r
theorem Fin.frz {K : Kn} {F H : Hp} {Qd : D → Prop} {Q : VK} (k : Fin B K F H Qd Q) (e : Same F H) (dk : DeckIn B.W F H) {d : D} {p : Addr} {o : HO} (q : Qd d) (hp : H p = none) (r : Rep K (upd F p o) (.ref p) d) (nt : NT o := by intro _ z; cases z) : Q (.ref p) (upd H p o) :=
  k d q _ _ _ (Grow.frz e hp) (dk.frz hp nt) r

/-! ### arithmetic -/
/-- integers that may be multiplied -/
def MulOk (i j : Int) : Prop := i.natAbs.log2 + j.natAbs.log2 < 1000000
def addD : D → D → (D → Prop) → Prop
  | .int i, .int j, Q => Q (.int (i + j))
  | .str i, .str j, Q => i.length + j.length ≤ sizeLine ∧ Q (.str (i ++ j))
  | .tup xs, .tup ys, Q => xs.length + ys.length ≤ sizeLine ∧ Q (.tup (xs ++ ys))
  | .lst xs, .lst ys, Q => xs.length + ys.length ≤ sizeLine ∧ Q (.lst (xs ++ ys))
  | _, _, _ => False
def subD : D → D → (D → Prop) → Prop
  | .int i, .int j, Q => Q (.int (i - j))
  | _, _, _ => False
def mulD : D → D → (D → Prop) → Prop
  | .int i, .int j, Q => MulOk i j ∧ Q (.int (i * j))
  | .lst xs, .int k, Q => 0 ≤ k ∧ k < 2 ^ 63 ∧ xs.length * k.toNat ≤ sizeLine ∧ Q (.lst (List.replicate k.toNat xs).flatten)
  | _, _, _ => False
/-- floors: by a positive divisor as Lean's / and % -/
def fdivD : D → D → (D → Prop) → Prop
  | .int i, .int j, Q => 0 < j ∧ j.natAbs.log2 < 9000 ∧ Q (.int (i / j))
  | _, _, _ => False
def modD : D → D → (D → Prop) → Prop
  | .int i, .int j, Q => 0 < j ∧ Q (.int (i % j))
  | _, _, _ => False
def shlD : D → D → (D → Prop) → Prop
  | .int i, .int j, Q => 0 ≤ j ∧ j ≤ 1000000 ∧ i.natAbs < 2 ^ 64 ∧ Q (.int (i * 2 ^ j.toNat))
  | _, _, _ => False
def negD : D → (D → Prop) → Prop
  | .int i, Q => Q (.int (-i))
  | _, _ => False
theorem o_add : OpR X (binaryOp .Add) (LO2 B X.kn addD) := opR_by fun v u H Q ⟨F, x, y, Qd, e, dk, r1, r2, q, k⟩ => by
  unfold addD at q
  split at q
  · exact ⟨_, op_add, _, _, r1.int, r2.int, k.here e dk q (.int _)⟩
  · exact ⟨_, op_add_str, _, _, r1.str, r2.str, q.1, k.here e dk q.2 (.str _)⟩
  · obtain ⟨a, vs, rfl, f1, h1, s1⟩ := r1.tup e
    obtain ⟨b, us, rfl, f2, h2, s2⟩ := r2.tup e
    refine ⟨_, op_catA, a, b, vs, us, rfl, rfl, h1, h2, by rw [s1.length, s2.length]; exact q.1, ?_⟩
    have z := s1.append s2
    refine ⟨fun w => ?_, fun w1 w => ?_, fun w1 w2 p hp => ?_⟩
    · subst w
      cases s1
      exact k.here e dk q.2 (.tup f2 (by simpa using s2))
    · subst w
      cases s2
      exact k.here e dk q.2 (.tup f1 (by simpa using s1))
    · exact k.frz e dk q.2 hp (.tup (SqT.of upd_same) (z.mono (same_new (e.free hp))))
  · obtain ⟨a, vs, rfl, h1, s1⟩ := r1.lst e
    obtain ⟨b, us, rfl, h2, s2⟩ := r2.lst e
    exact ⟨_, op_cat, a, b, vs, us, rfl, rfl, h1, h2, by rw [s1.length, s2.length]; exact q.1, fun p hp => k.frz e dk q.2 hp (.lst upd_same ((s1.append s2).mono (same_new (e.free hp))))⟩
  · exact q.elim
end
end ND

/-! ND3: operators, comparisons, truth, displays, items, slices -/
namespace ND
open PySem PySem.Spec L2
section
variable {B : Bs} {X : Cx} {e a b c : Expr} {es : List Expr} {f fa fb fc : GE} {pos : Pos}
theorem o_sub : OpR X (binaryOp .Sub) (LO2 B X.kn subD) := opR_by fun v u H Q ⟨F, x, y, Qd, e, dk, r1, r2, q, k⟩ => by
  unfold subD at q
  split at q
  · exact ⟨_, op_sub, _, _, r1.int, r2.int, k.here e dk q (.int _)⟩
  · exact q.elim
theorem Reps.rep {K : Kn} {F : Hp} {vs : List V} {ds : List D} (h : Reps K F vs ds) : ∀ n : Nat, Reps K F (List.replicate n vs).flatten (List.replicate n ds).flatten
  | 0 => .nil
  | n + 1 => by
    rw [List.replicate_succ, List.replicate_succ, List.flatten_cons, List.flatten_cons]
    exact h.append (Reps.rep h n)
theorem o_mul : OpR X (binaryOp .Mult) (LO2 B X.kn mulD) := opR_by fun v u H Q ⟨F, x, y, Qd, e, dk, r1, r2, q, k⟩ => by
  unfold mulD at q
  split at q
  · exact ⟨_, op_mulW, _, _, r1.int, r2.int, q.1, k.here e dk q.2 (.int _)⟩
  · obtain ⟨a, vs, rfl, h1, s1⟩ := r1.lst e
    obtain ⟨q0, q1, q2, q3⟩ := q
    have := s1.length
    exact ⟨_, op_rep, a, _, vs, rfl, r2.int, h1, by omega, q1, by rw [this]; exact q2, fun p hp => k.frz e dk q3 hp (.lst upd_same ((s1.rep _).mono (same_new (e.free hp))))⟩
  · exact q.elim
theorem o_fdiv : OpR X (binaryOp .FloorDiv) (LO2 B X.kn fdivD) := opR_by fun v u H Q ⟨F, x, y, Qd, e, dk, r1, r2, q, k⟩ => by
  unfold fdivD at q
  split at q
  · exact ⟨_, op_fdivW, _, _, r1.int, r2.int, ⟨q.1, q.2.1⟩, k.here e dk q.2.2 (.int _)⟩
  · exact q.elim
theorem o_mod : OpR X (binaryOp .Mod) (LO2 B X.kn modD) := opR_by fun v u H Q ⟨F, x, y, Qd, e, dk, r1, r2, q, k⟩ => by
  unfold modD at q
  split at q
  · exact ⟨_, op_mod, _, _, r1.int, r2.int, q.1, k.here e dk q.2 (.int _)⟩
  · exact q.elim
theorem o_shl : OpR X (binaryOp .LShift) (LO2 B X.kn shlD) := opR_by fun v u H Q ⟨F, x, y, Qd, e, dk, r1, r2, q, k⟩ => by
  unfold shlD at q
  split at q
  · exact ⟨_, op_shl, _, _, r1.int, r2.int, ⟨q.1, q.2.1, q.2.2.1⟩, k.here e dk q.2.2.2 (.int _)⟩
  · exact q.elim
theorem o_neg : UnR X (unaryOp .USub) (LO1 B X.kn negD) := unR_by fun v H Q ⟨F, x, Qd, e, dk, r1, q, k⟩ => by
  unfold negD at q
  split at q
  · exact ⟨_, un_neg, _, r1.int, k.here e dk q (.int _)⟩
  · exact q.elim

/-! ### plain data and their equality -/
mutual
def toPy : D → PyData
  | .non => .none
  | .bl b => .bool b
  | .int i => .int i
  | .str x => .str x
  | .tup xs => .tuple (toPys xs)
  | .lst xs => .list (toPys xs)
  | .dic kvs => .dict (toPyK kvs)
  | .obj _ _ => .none
  | .opq _ => .none
def toPys : List D → List PyData
  | [] => []
  | x :: xs => toPy x :: toPys xs
def toPyK : List (Key × D) → List (PyData × PyData)
  | [] => []
  | (.inl i, x) :: xs => (.int i, toPy x) :: toPyK xs
  | (.inr i, x) :: xs => (.str i, toPy x) :: toPyK xs
end
/-! plain data: no dict, no object within, at most n deep -/
mutual
def pl : Nat → D → Bool
  | _, .non => true
  | _, .bl _ => true
  | _, .int _ => true
  | _, .str x => PyData.strOk x
  | 0, .tup _ => false
  | 0, .lst _ => false
  | n + 1, .tup xs => pls n xs
  | n + 1, .lst xs => pls n xs
  | _, .dic _ => false
  | _, .obj _ _ => false
  | _, .opq _ => false
def pls : Nat → List D → Bool
  | _, [] => true
  | n, x :: xs => pl n x && pls n xs
end
mutual
theorem pl_shape : ∀ (n : Nat) (d : D), pl n d = true → (toPy d).canLay0 = true ∧ (toPy d).depth ≤ n
  | n, .non, _ => by simp [toPy, PyData.canLay0, PyData.depth]
  | n, .bl b, _ => by simp [toPy, PyData.canLay0, PyData.depth]
  | n, .int b, _ => by simp [toPy, PyData.canLay0, PyData.depth]
  | n, .str x, h => by
    simp only [pl] at h
    simp [toPy, PyData.canLay0, PyData.depth, h]
  | 0, .tup xs, h => by simp [pl] at h
  | 0, .lst xs, h => by simp [pl] at h
  | n + 1, .tup xs, h => by
    simp only [pl] at h
    obtain ⟨h1, h2⟩ := pls_shape n xs h
    simp only [toPy, PyData.canLay0, PyData.depth]
    exact ⟨h1, by omega⟩
  | n + 1, .lst xs, h => by
    simp only [pl] at h
    obtain ⟨h1, h2⟩ := pls_shape n xs h
    simp only [toPy, PyData.canLay0, PyData.depth]
    exact ⟨h1, by omega⟩
  | n, .dic _, h => by simp [pl] at h
  | n, .obj _ _, h => by simp [pl] at h
  | n, .opq _, h => by simp [pl] at h
theorem pls_shape : ∀ (n : Nat) (d : List D), pls n d = true → PyData.canLayAll0 (toPys d) = true ∧ PyData.depthAll (toPys d) ≤ n
  | n, [], _ => by simp [toPys, PyData.canLayAll0, PyData.depthAll]
  | n, x :: xs, h => by
    simp only [pls, Bool.and_eq_true] at h
    obtain ⟨h1, h2⟩ := pl_shape n x h.1
    obtain ⟨h3, h4⟩ := pls_shape n xs h.2
    simp only [toPys, PyData.canLayAll0, PyData.depthAll, Bool.and_eq_true]
    exact ⟨⟨h1, h3⟩, by omega⟩
end
theorem pl_shaped {d : D} (h : pl 64 d = true) : SeqAt.shaped (toPy d) = true := by
  obtain ⟨h1, h2⟩ := pl_shape 64 d h
  show ((toPy d).canLay0 && decide ((toPy d).depth ≤ 64)) = true
  rw [h1, decide_eq_true h2]
  rfl
mutual
theorem Rep.dp {K : Kn} {F H : Hp} (e : Same F H) : ∀ (n : Nat) (d : D) (v : V), pl n d = true → Rep K F v d → Dp K.K H v (toPy d)
  | _, .non, _, _, h => by cases h; simp only [toPy]; exact .non
  | _, .bl _, _, _, h => by cases h; simp only [toPy]; exact .bl _
  | _, .int _, _, _, h => by cases h; simp only [toPy]; exact .int _
  | _, .str _, _, _, h => by cases h; simp only [toPy]; exact .str _
  | 0, .tup _, _, p, h => by simp [pl] at p
  | 0, .lst _, _, p, h => by simp [pl] at p
  | n + 1, .tup xs, _, p, h => by
    simp only [pl] at p
    cases h with
    | tup h r =>
      simp only [toPy]
      exact .tup (same_t e h) (Reps.dp e n xs _ p r)
  | n + 1, .lst xs, _, p, h => by
    simp only [pl] at p
    cases h with
    | lst h r =>
      simp only [toPy]
      exact .lst (SqL.of (e _ _ h)) (Reps.dp e n xs _ p r)
  | _, .dic _, _, p, _ => by simp [pl] at p
  | _, .obj _ _, _, p, _ => by simp [pl] at p
  | _, .opq _, _, p, _ => by simp [pl] at p
theorem Reps.dp {K : Kn} {F H : Hp} (e : Same F H) : ∀ (n : Nat) (d : List D) (v : List V), pls n d = true → Reps K F v d → DpAll K.K H v (toPys d)
  | _, [], _, _, h => by cases h; simp only [toPys]; exact .nil
  | n, x :: xs, _, p, h => by
    simp only [pls, Bool.and_eq_true] at p
    cases h with
    | cons h1 h2 =>
      simp only [toPys]
      exact .cons (Rep.dp e n x _ p.1 h1) (Reps.dp e n xs _ p.2 h2)
end
theorem RepB.dp {W : WT} {K : Kn} {F H : Hp} {v : V} {d : D} (h : RepB W K F H v d) (e : Same F H) (p : pl 64 d = true) : Dp K.K H v (toPy d) := by
  rcases h with h | ⟨a, ds, vs, rfl, rfl, _, h, r⟩ | ⟨a, ds, vs, rfl, rfl, _, h, r⟩
  · exact h.dp e 64 d v p
  · simp only [pl] at p
    simp only [toPy]
    exact .lst (SqL.of h) (Reps.dp e 63 ds _ p r)
  · simp [pl] at p
/-- Python's == on plain data -/
def eqb (x y : D) : Bool := PyData.eqv (toPy x) (toPy y)
def eqD : D → D → (D → Prop) → Prop
  | .str a, .str b, Q => Q (.bl (decide (a = b)))
  | x, y, Q => pl 64 x = true ∧ pl 64 y = true ∧ Q (.bl (eqb x y))
def neD : D → D → (D → Prop) → Prop
  | .str a, .str b, Q => Q (.bl (!decide (a = b)))
  | x, y, Q => pl 64 x = true ∧ pl 64 y = true ∧ Q (.bl (!eqb x y))
theorem vstr {a b : Str} : decide (V.str a = V.str b) = decide (a = b) := by
  by_cases h : a = b
  · subst h; simp
  · rw [decide_eq_false h, decide_eq_false fun z => h (V.str.inj z)]
theorem o_eq (hu : X.A.units + 64 < cLine) : OpR X (compareOp .Eq) (LO2 B X.kn eqD) := opR_by fun v u H Q ⟨F, x, y, Qd, e, dk, r1, r2, q, k⟩ => by
  unfold eqD at q
  split at q
  · refine ⟨_, op_eq, ?_, ?_⟩
    · rw [r1.str, r2.str]; rfl
    · rw [r1.str, r2.str, vstr]; exact k.here e dk q (.bl _)
  · exact ⟨_, op_eqD hu, _, _, r1.dp e q.1, r2.dp e q.2.1, pl_shaped q.1, pl_shaped q.2.1, k.here e dk q.2.2 (.bl _)⟩
theorem o_ne (hu : X.A.units + 64 < cLine) : OpR X (compareOp .NotEq) (LO2 B X.kn neD) := opR_by fun v u H Q ⟨F, x, y, Qd, e, dk, r1, r2, q, k⟩ => by
  unfold neD at q
  split at q
  · refine ⟨_, op_ne, ?_, ?_⟩
    · rw [r1.str, r2.str]; rfl
    · rw [r1.str, r2.str, vstr]; exact k.here e dk q (.bl _)
  · exact ⟨_, op_neD hu, _, _, r1.dp e q.1, r2.dp e q.2.1, pl_shaped q.1, pl_shaped q.2.1, k.here e dk q.2.2 (.bl _)⟩
/-- in: plain data in a tuple or a list of such; a sign in a text -/
def inb (x : D) (ys : List D) : Bool := ys.any fun z => eqb z x
def inD (neg : Bool) : D → D → (D → Prop) → Prop
  | x, .tup ys, Q => pl 64 x = true ∧ pl 64 (.tup ys) = true ∧ Q (.bl (if neg then !inb x ys else inb x ys))
  | x, .lst ys, Q => pl 64 x = true ∧ pl 64 (.lst ys) = true ∧ Q (.bl (if neg then !inb x ys else inb x ys))
  | .str x, .str y, Q => ∃ c, x = ⟨#[c]⟩ ∧ Q (.bl (if neg then !decide (c ∈ y.cps.toList) else decide (c ∈ y.cps.toList)))
  | _, _, _ => False
theorem any_toPy (x : D) : ∀ ys : List D, ((toPys ys).any fun z => PyData.eqv z (toPy x)) = inb x ys
  | [] => by simp [toPys, inb]
  | y :: ys => by
    have := any_toPy x ys
    simp only [toPys, List.any_cons, this, inb, eqb]
def rInT (K : PySem.W.Frag) (neg : Bool) : R2 := fun x y H Q => ∃ d ds, Dp K H x d ∧ Dp K H y (.tuple ds) ∧ SeqAt.shaped d = true ∧ SeqAt.shaped (.tuple ds) = true ∧ Q (.bl (if neg then !(ds.any fun z => PyData.eqv z d) else ds.any fun z => PyData.eqv z d)) H
theorem op_inTup (hu : X.A.units + 65 < cLine) : OpR X (compareOp .In) (rInT X.K false) := fun _ _ _ H one all v u _ I isOne isAll ⟨d, ds, dOne, dAll, okOne, okAll, q⟩ => by
  obtain ⟨⟨_, readsOne⟩, _, readsAll⟩ := And.intro (Dp.reads I d one v dOne isOne) (Dp.reads I (.tuple ds) all u dAll isAll)
  exact SeqAt.in_tuple_reads readsAll readsOne (SeqAt.canLay_of_shaped okAll) (SeqAt.canLay_of_shaped okOne) (PyProof.Rows.room_in_shaped okOne hu) ⟨.bl _, H, I, rfl, q⟩
theorem o_in (hu : X.A.units + 65 < cLine) : OpR X (compareOp .In) (LO2 B X.kn (inD false)) := opR_by fun v u H Q ⟨F, x, y, Qd, e, dk, r1, r2, q, k⟩ => by
  unfold inD at q
  split at q
  · have d2 := r2.dp e q.2.1
    have s2 := pl_shaped q.2.1
    simp only [toPy] at d2 s2
    exact ⟨_, op_inTup hu, _, _, r1.dp e q.1, d2, pl_shaped q.1, s2, by rw [any_toPy]; exact k.here e dk q.2.2 (.bl _)⟩
  · have d2 := r2.dp e q.2.1
    have s2 := pl_shaped q.2.1
    simp only [toPy] at d2 s2
    exact ⟨_, op_inD hu, _, _, r1.dp e q.1, d2, pl_shaped q.1, s2, by rw [any_toPy]; exact k.here e dk q.2.2 (.bl _)⟩
  · obtain ⟨c, rfl, q⟩ := q
    exact ⟨_, op_in_sign, c, _, r1.str, r2.str, k.here e dk q (.bl _)⟩
  · exact q.elim
def ltD : D → D → (D → Prop) → Prop
  | .int i, .int j, Q => Q (.bl (decide (i < j)))
  | .str i, .str j, Q => Q (.bl (decide (i.cps.toList < j.cps.toList)))
  | _, _, _ => False
def leD : D → D → (D → Prop) → Prop
  | .int i, .int j, Q => Q (.bl (decide (i ≤ j)))
  | .str i, .str j, Q => Q (.bl (!decide (j.cps.toList < i.cps.toList)))
  | _, _, _ => False
def gtD : D → D → (D → Prop) → Prop
  | .int i, .int j, Q => Q (.bl (decide (j < i)))
  | .str i, .str j, Q => Q (.bl (decide (j.cps.toList < i.cps.toList)))
  | _, _, _ => False
def geD : D → D → (D → Prop) → Prop
  | .int i, .int j, Q => Q (.bl (decide (j ≤ i)))
  | .str i, .str j, Q => Q (.bl (!decide (i.cps.toList < j.cps.toList)))
  | _, _, _ => False
theorem o_lt : OpR X (compareOp .Lt) (LO2 B X.kn ltD) := opR_by fun v u H Q ⟨F, x, y, Qd, e, dk, r1, r2, q, k⟩ => by
  unfold ltD at q
  split at q
  · exact ⟨_, op_lt, _, _, r1.int, r2.int, k.here e dk q (.bl _)⟩
  · exact ⟨_, op_lt_str, _, _, r1.str, r2.str, k.here e dk q (.bl _)⟩
  · exact q.elim
theorem o_le : OpR X (compareOp .LtE) (LO2 B X.kn leD) := opR_by fun v u H Q ⟨F, x, y, Qd, e, dk, r1, r2, q, k⟩ => by
  unfold leD at q
  split at q
  · exact ⟨_, op_le, _, _, r1.int, r2.int, k.here e dk q (.bl _)⟩
  · exact ⟨_, op_le_str, _, _, r1.str, r2.str, k.here e dk q (.bl _)⟩
  · exact q.elim
theorem o_gt : OpR X (compareOp .Gt) (LO2 B X.kn gtD) := opR_by fun v u H Q ⟨F, x, y, Qd, e, dk, r1, r2, q, k⟩ => by
  unfold gtD at q
  split at q
  · exact ⟨_, op_gt, _, _, r1.int, r2.int, k.here e dk q (.bl _)⟩
  · exact ⟨_, op_gt_str, _, _, r1.str, r2.str, k.here e dk q (.bl _)⟩
  · exact q.elim
theorem o_ge : OpR X (compareOp .GtE) (LO2 B X.kn geD) := opR_by fun v u H Q ⟨F, x, y, Qd, e, dk, r1, r2, q, k⟩ => by
  unfold geD at q
  split at q
  · exact ⟨_, op_ge, _, _, r1.int, r2.int, k.here e dk q (.bl _)⟩
  · exact ⟨_, op_ge_str, _, _, r1.str, r2.str, k.here e dk q (.bl _)⟩
  · exact q.elim

/-! ### comparisons as values and tests; truth; and, or, not -/
variable {g g' : D → D → (D → Prop) → Prop} {ft fu : GT} {rest : List Expr}
theorem ed_cmp {op : CmpOp} (ho : OpR X (compareOp op) (LO2 B X.kn g)) (ha : BD B X a fa) (hb : BD B X b fb) (hm : behindInMarks op b = false) : ED B X (.Compare a [op] [b] pos) (gBin g fa fb) :=
  ⟨pe_imp (pe_cmpR ho ha.run hb.run hm) fun s H Q ⟨σ, F, Qd, R, q, k⟩ => lo2_of R q k⟩
/-- if, by a bool: does not open where the bool is not known -/
def iteB : Bool → Prop → Prop → Prop
  | true, p, _ => p
  | false, _, q => q
@[simp] theorem iteB_eq (b : Bool) (p q : Prop) : iteB b p q = (if b = true then p else q) := by cases b <;> simp [iteB]
/-- a value that has to be a bool, as a test -/
def isBl : D → (Bool → Prop) → Prop
  | .bl b, Q => Q b
  | _, _ => False
@[simp] theorem isBl_b (b : Bool) (Q : Bool → Prop) : isBl (.bl b) Q ↔ Q b := Iff.rfl
theorem isBl_ex {d : D} {Q : Bool → Prop} (h : isBl d Q) : ∃ b, d = .bl b ∧ Q b := by
  cases d with
  | bl b => exact ⟨b, rfl, h⟩
  | _ => exact False.elim h
@[simp] def gB (f : GE) (σ : List SV) (Q : Bool → Prop) : Prop := f σ fun d => isBl d Q
theorem fin_b {K : Kn} {F H : Hp} {Qd : Bool → Prop} {Q : Bool → Hp → Prop} (k : FinT B F H Qd Q) : Fin B K F H (fun d => isBl d Qd) fun x H' => ∃ b, x = .bl b ∧ Q b H' := fun d q0 F' H' v g dk r => by
  obtain ⟨b, e, q⟩ := isBl_ex q0
  subst e
  cases r
  exact ⟨b, rfl, k b q F' H' g dk⟩
theorem td_cmp {op : CmpOp} (ho : OpR X (compareOp op) (LO2 B X.kn g)) (ha : BD B X a fa) (hb : BD B X b fb) (hm : behindInMarks op b = false) : TD B X (.Compare a [op] [b] pos) (gB (gBin g fa fb)) :=
  ⟨pt_imp (pt_cmpR ho ha.run hb.run hm) fun s H Q ⟨σ, F, Qd, R, q, k⟩ => lo2_of R q (fin_b k)⟩
@[simp] def gChain (g g' : D → D → (D → Prop) → Prop) (fa fb fc : GE) (σ : List SV) (Q : D → Prop) : Prop := fa σ fun x => fb σ fun y => g x y fun r => isBl r fun b => iteB b (fc σ fun z => g' y z Q) (Q (.bl false))
theorem lo_chain {K : Kn} {s : L2.St} {σ : List SV} {F H : Hp} {Qd : D → Prop} {Q : VK} (R : Rel B K σ s F H) (q : gChain g g' fa fb fc σ Qd) (k : Fin B K F H Qd Q) : tChain (LO2 B K g) (LO2 B K g') (LB B K fa) (LB B K fb) (LB B K fc) s H Q := by
  refine lb_two (R2 := fun x y H2 => LO2 B K g x y H2 fun z H3 => ∃ k, z = .bl k ∧ (if k = true then LB B K fc s H3 fun w' H4 => LO2 B K g' y w' H4 Q else Q (.bl false) H3)) R q fun x y F1 H1 v u qq g1 dk r1 r2 => ?_
  refine ⟨F1, x, y, _, g1.fh, dk, r1, r2, qq, fun d qq3 F2 H2 w g2 dk2 r3 => ?_⟩
  obtain ⟨b, e, q3⟩ := isBl_ex qq3
  subst e
  cases r3
  refine ⟨b, rfl, ?_⟩
  cases b with
  | false => exact k _ q3 F2 H2 _ (g1.trans g2) dk2 (.bl false)
  | true => exact ⟨σ, F2, _, R.grow (g1.trans g2) dk2, q3, fun z qz F3 H3 w3 g3 dk3 r4 => ⟨F3, y, z, Qd, g3.fh, dk3, r2.grow (g2.trans g3), r4, qz, k.more ((g1.trans g2).trans g3)⟩⟩
theorem ed_chain {op op' : CmpOp} (ho : OpR X (compareOp op) (LO2 B X.kn g)) (ho' : OpR X (compareOp op') (LO2 B X.kn g')) (ha : BD B X a fa) (hb : BD B X b fb) (hc : BD B X c fc)
    (hm : lastMarks [op, op'] [b, c] = false := by with_unfolding_all rfl) : ED B X (.Compare a [op, op'] [b, c] pos) (gChain g g' fa fb fc) :=
  ⟨pe_imp (pe_chain ho ho' ha.run hb.run hc.run hm) fun s H Q ⟨σ, F, Qd, R, q, k⟩ => lo_chain R q k⟩
/-- the truth of data -/
def truthD : D → (Bool → Prop) → Prop
  | .non, Q => Q false
  | .bl b, Q => Q b
  | .int i, Q => Q (i != 0)
  | .str x, Q => x.length ≤ sizeLine ∧ Q ((x.length : Int) != 0)
  | .tup xs, Q => Q (!xs.isEmpty)
  | .lst xs, Q => Q (!xs.isEmpty)
  | .dic kvs, Q => Q (!kvs.isEmpty)
  | _, _ => False
theorem Reps.isEmpty {K : Kn} {F : Hp} {vs : List V} {ds : List D} (h : Reps K F vs ds) : vs.isEmpty = ds.isEmpty := by cases h <;> rfl
theorem RepKs.isEmpty {K : Kn} {F : Hp} {vs : List (Key × V)} {ds : List (Key × D)} (h : RepKs K F vs ds) : vs.isEmpty = ds.isEmpty := by cases h <;> rfl
theorem truth_of {K : Kn} {W : WT} {F H : Hp} {v : V} {d : D} {Qd : Bool → Prop} (r : RepB W K F H v d) (e : Same F H) (q : truthD d Qd) : ∃ b, TruV K.K v H b ∧ Qd b := by
  unfold truthD at q
  split at q
  · rw [r.non]; exact ⟨_, rfl, q⟩
  · rw [r.bl]; exact ⟨_, rfl, q⟩
  · rw [r.int]; exact ⟨_, rfl, q⟩
  · rw [r.str]; exact ⟨_, ⟨q.1, rfl⟩, q.2⟩
  · obtain ⟨a, vs, rfl, _, h, s⟩ := r.tup e
    exact ⟨_, .inr (.inl ⟨vs, h, by rw [s.isEmpty]⟩), q⟩
  · obtain ⟨a, vs, rfl, h, s⟩ := r.lst e
    exact ⟨_, .inl ⟨vs, SqL.of h, by rw [s.isEmpty]⟩, q⟩
  · obtain ⟨a, vs, rfl, h, s⟩ := r.dic e
    exact ⟨_, .inr (.inr ⟨vs, h, by rw [s.isEmpty]⟩), q⟩
  · exact q.elim
@[simp] def gTru (f : GE) (σ : List SV) (Q : Bool → Prop) : Prop := f σ fun d => truthD d Q
theorem td_val (ha : BD B X a fa) (he : ∀ whole, isTrue a X.env whole = (do let v ← whole; standAt a.pos; holding [v] (truthy v)) := by intro _; rfl) : TD B X a (gTru fa) :=
  ⟨pt_imp (pt_truth ha.run he) fun s H Q ⟨σ, F, Qd, R, q, k⟩ => ⟨σ, F, _, R, q, fun d qd F' H' v g dk r => by
    obtain ⟨b, h1, h2⟩ := truth_of r g.fh qd
    exact ⟨b, h1, k b h2 F' H' g dk⟩⟩⟩
@[simp] def gNotT (ft : GT) (σ : List SV) (Q : Bool → Prop) : Prop := ft σ fun b => Q (!b)
theorem td_not (ha : TD B X a ft) : TD B X (.UnaryOp .Not a pos) (gNotT ft) := ⟨pt_imp (pt_not ha.run) fun s H Q ⟨σ, F, Qd, R, q, k⟩ => ⟨σ, F, _, R, q, fun b qb F' H' g dk => k _ qb F' H' g dk⟩⟩
@[simp] def gAndT (ft fu : GT) (σ : List SV) (Q : Bool → Prop) : Prop := ft σ fun b => iteB b (fu σ Q) (Q false)
@[simp] def gOrT (ft fu : GT) (σ : List SV) (Q : Bool → Prop) : Prop := ft σ fun b => iteB b (Q true) (fu σ Q)
theorem wd_and1 (ha : TD B X a ft) : WDd B X (.BoolOp .And [a] pos) ft := ⟨pw_and1 ha.run⟩
theorem wd_or1 (ha : TD B X a ft) : WDd B X (.BoolOp .Or [a] pos) ft := ⟨pw_or1 ha.run⟩
theorem wd_and (ha : TD B X a ft) (hb : WDd B X (.BoolOp .And (b :: rest) pos) fu) : WDd B X (.BoolOp .And (a :: b :: rest) pos) (gAndT ft fu) :=
  ⟨pw_imp (pw_and ha.run hb.run) fun s H Q ⟨σ, F, Qd, R, q, k⟩ => ⟨σ, F, _, R, q, fun c qc F' H' g dk => by
    cases c with
    | true => exact ⟨σ, F', Qd, R.grow g dk, qc, k.more g⟩
    | false => exact k _ qc F' H' g dk⟩⟩
theorem wd_or (ha : TD B X a ft) (hb : WDd B X (.BoolOp .Or (b :: rest) pos) fu) : WDd B X (.BoolOp .Or (a :: b :: rest) pos) (gOrT ft fu) :=
  ⟨pw_imp (pw_or ha.run hb.run) fun s H Q ⟨σ, F, Qd, R, q, k⟩ => ⟨σ, F, _, R, q, fun c qc F' H' g dk => by
    cases c with
    | false => exact ⟨σ, F', Qd, R.grow g dk, qc, k.more g⟩
    | true => exact k _ qc F' H' g dk⟩⟩
theorem WDd.t (h : WDd B X e ft) : TD B X e ft := ⟨h.run.pt⟩
/-- as values -/
@[simp] def gAnd (fa fb : GE) (σ : List SV) (Q : D → Prop) : Prop := fa σ fun x => truthD x fun b => iteB b (fb σ Q) (Q x)
@[simp] def gNot (fa : GE) (σ : List SV) (Q : D → Prop) : Prop := fa σ fun x => truthD x fun b => Q (.bl (!b))
theorem ed_one {op : BoolOp} (h : ED B X a fa) : ED B X (.BoolOp op [a] pos) fa := ⟨pe_one h.run⟩
theorem ed_and (ha : ED B X a fa) (hb : ED B X (.BoolOp .And (b :: rest) pos) fb) : ED B X (.BoolOp .And (a :: b :: rest) pos) (gAnd fa fb) :=
  ⟨pe_imp (pe_andT ha.run hb.run) fun s H Q ⟨σ, F, Qd, R, q, k⟩ => ⟨σ, F, _, R, q, fun d qd F' H' v g dk r => by
    obtain ⟨c, h1, h2⟩ := truth_of (W := B.W) (.inl r) g.fh qd
    refine ⟨c, h1, ?_⟩
    cases c with
    | true => exact ⟨σ, F', Qd, R.grow g dk, h2, k.more g⟩
    | false => exact k _ h2 F' H' v g dk r⟩⟩
theorem ed_not (ha : BD B X a fa) : ED B X (.UnaryOp .Not a pos) (gNot fa) :=
  ⟨pe_imp (pe_notT ha.run) fun s H Q ⟨σ, F, Qd, R, q, k⟩ => ⟨σ, F, _, R, q, fun d qd F' H' v g dk r => by
    obtain ⟨c, h1, h2⟩ := truth_of r g.fh qd
    exact ⟨c, h1, k _ h2 F' H' _ g dk (.bl _)⟩⟩⟩
@[simp] def gIf (ft : GT) (fa fb : GE) (σ : List SV) (Q : D → Prop) : Prop := ft σ fun b => iteB b (fa σ Q) (fb σ Q)
theorem ed_if (hc : TD B X c ft) (ha : ED B X a fa) (hb : ED B X b fb) : ED B X (.IfExp c a b pos) (gIf ft fa fb) :=
  ⟨pe_imp (pe_ifExp hc.run ha.run hb.run) fun s H Q ⟨σ, F, Qd, R, q, k⟩ => ⟨σ, F, _, R, q, fun d qd F' H' g dk => by
    cases d with
    | true => exact ⟨σ, F', Qd, R.grow g dk, qd, k.more g⟩
    | false => exact ⟨σ, F', Qd, R.grow g dk, qd, k.more g⟩⟩⟩
/-! ### arguments, displays -/
@[simp] def gNil (_ : List SV) (Q : List D → Prop) : Prop := Q []
@[simp] def gCons (fa : GE) (fs : GA) (σ : List SV) (Q : List D → Prop) : Prop := fa σ fun x => fs σ fun xs => Q (x :: xs)
theorem ad_nil : AD B X [] gNil := ⟨pa_imp pa_nil fun s H Q ⟨σ, F, Qd, R, q, k⟩ => k _ q F H _ (Grow.refl R.ex) R.deck .nil⟩
theorem ad_cons {fs : GA} (ha : ED B X e fa) (hr : AD B X es fs) (hs : starEach (e :: es) X.env = (false, eval e X.env) :: starEach es X.env := by rfl) : AD B X (e :: es) (gCons fa fs) :=
  ⟨pa_imp (pa_cons ha.run hr.run hs) fun s H Q ⟨σ, F, Qd, R, q, k⟩ => ⟨σ, F, _, R, q, fun d qd F1 H1 v g1 d1 r1 => ⟨σ, F1, _, R.grow g1 d1, qd, fun ds qds F2 H2 vs g2 d2 r2 => k _ qds F2 H2 _ (g1.trans g2) d2 (.cons (r1.mono g2.ff) r2)⟩⟩⟩
theorem abd_nil : ABD B X [] gNil := ⟨pa_imp pa_nil fun s H Q ⟨σ, F, Qd, R, q, k⟩ => k _ q F H _ (Grow.refl R.ex) R.deck .nil⟩
theorem abd_cons {fs : GA} (ha : BD B X e fa) (hr : ABD B X es fs) (hs : starEach (e :: es) X.env = (false, eval e X.env) :: starEach es X.env := by rfl) : ABD B X (e :: es) (gCons fa fs) :=
  ⟨pa_imp (pa_cons ha.run hr.run hs) fun s H Q ⟨σ, F, Qd, R, q, k⟩ => ⟨σ, F, _, R, q, fun d qd F1 H1 v g1 d1 r1 => ⟨σ, F1, _, R.grow g1 d1, qd, fun ds qds F2 H2 vs g2 d2 r2 => k _ qds F2 H2 _ (g1.trans g2) d2 (.cons (r1.grow g2) r2)⟩⟩⟩
@[simp] def gTup (fs : GA) (σ : List SV) (Q : D → Prop) : Prop := fs σ fun xs => xs.length ≤ sizeLine ∧ Q (.tup xs)
@[simp] def gLst (fs : GA) (σ : List SV) (Q : List D → Prop) : Prop := fs σ fun xs => xs.length ≤ sizeLine ∧ Q xs
theorem ed_tup {fs : GA} {x1} (h : AD B X es fs) : ED B X (.Tuple es x1 pos) (gTup fs) :=
  ⟨pe_imp (pe_tup h.run) fun s H Q ⟨σ, F, Qd, R, q, k⟩ => ⟨σ, F, _, R, q, fun ds qd F1 H1 vs g1 d1 r1 => ⟨by rw [r1.length]; exact qd.1, fun p hp =>
    (k.more g1).frz g1.fh d1 qd.2 hp (.tup (SqT.of upd_same) (r1.mono (same_new (g1.fh.free hp))))⟩⟩⟩
theorem fd_lst {fs : GA} (h : AD B X es fs) : FD B X (.List es pos) (gLst fs) :=
  ⟨pe_imp (pe_lst h.run) fun s H Q ⟨σ, F, Qd, R, q, k⟩ => ⟨σ, F, _, R, q, fun ds qd F1 H1 vs g1 d1 r1 => ⟨by rw [r1.length]; exact qd.1, fun p hp => (k.more g1).laid g1.fh d1 qd.2 hp r1⟩⟩⟩

/-! ### items -/
def look {κ : Type} [BEq κ] (kvs : List (κ × D)) (k : κ) : Option D := kvs.lookup k
def ixD : D → D → (D → Prop) → Prop
  | .tup xs, .int i, Q => ∃ x, atI xs i = some x ∧ Q x
  | .lst xs, .int i, Q => ∃ x, atI xs i = some x ∧ Q x
  | .str z, .int i, Q => z.length ≤ sizeLine ∧ ∃ c, atI z.cps.toList i = some c ∧ Q (.str ⟨#[c]⟩)
  | _, _, _ => False
theorem Reps.atI {K : Kn} {F : Hp} {vs : List V} {ds : List D} {i : Int} {x : D} (h : Reps K F vs ds) (e : L2.atI ds i = some x) : ∃ v, L2.atI vs i = some v ∧ Rep K F v x := by
  unfold L2.atI at e ⊢
  rw [h.length]
  cases q : ixN ds.length i with
  | none =>
    rw [q] at e
    cases e
  | some j =>
    rw [q] at e
    obtain ⟨v, h1, h2⟩ := h.get (i := j) (x := x) e
    exact ⟨v, h1, h2⟩
theorem ixR_by {r' : R2} (w : ∀ v u H Q, r' v u H Q → ∃ r, IxR X r ∧ r v u H Q) : IxR X r' := fun vl sl pins s σ H x y v u Q I rx ry h hs => by
  obtain ⟨r, h1, h2⟩ := w _ _ _ _ h
  exact h1 vl sl pins s σ H x y v u Q I rx ry h2 hs
theorem o_ix : IxR X (LO2 B X.kn ixD) := ixR_by fun v u H Q ⟨F, x, y, Qd, e, dk, r1, r2, q, k⟩ => by
  unfold ixD at q
  split at q
  · obtain ⟨a, vs, rfl, _, h, s⟩ := r1.tup e
    obtain ⟨x, h1, q⟩ := q
    obtain ⟨w, h2, h3⟩ := s.atI h1
    exact ⟨_, ix_tup, a, vs, _, w, rfl, r2.int, h, h2, k.here e dk q h3⟩
  · obtain ⟨a, vs, rfl, h, s⟩ := r1.lst e
    obtain ⟨x, h1, q⟩ := q
    obtain ⟨w, h2, h3⟩ := s.atI h1
    exact ⟨_, ix_list, a, vs, _, w, rfl, r2.int, SqL.of h, h2, k.here e dk q h3⟩
  · obtain ⟨z, c, h1, q⟩ := q
    exact ⟨_, ix_str, _, _, c, r1.str, r2.int, z, h1, k.here e dk q (.str _)⟩
  · exact q.elim
theorem ed_ix (ha : BD B X a fa) (hb : BD B X b fb) (hs : PlainIx b := by exact fun _ _ => rfl) : ED B X (.Subscript a b pos) (gBin ixD fa fb) :=
  ⟨pe_imp (pe_ix o_ix ha.run hb.run hs) fun s H Q ⟨σ, F, Qd, R, q, k⟩ => lo2_of R q k⟩

/-! ### slices -/
abbrev GO := List SV → (Option Int → Prop) → Prop
def LO (B : Bs) (K : Kn) (f : GO) : TO := fun s H Q => ∃ σ F Qd, Rel B K σ s F H ∧ f σ Qd ∧ ∀ o, Qd o → ∀ F' H', Grow B.W F H F' H' → DeckIn B.W F' H' → Q o H'
structure OD (B : Bs) (X : Cx) (e : Option Expr) (f : GO) : Prop where
  run : PO X e (LO B X.kn f)
theorem po_imp {e : Option Expr} {t t' : TO} (h : PO X e t) (w : ∀ s H Q, t' s H Q → t s H Q) : PO X e t' := ⟨fun pins s σ H Q I q => h.run pins s σ H Q I (w _ _ _ q)⟩
@[simp] def gNoPart (_ : List SV) (Q : Option Int → Prop) : Prop := Q none
def unI (d : D) (Q : Int → Prop) : Prop := ∃ i, d = .int i ∧ Q i
@[simp] theorem unI_i (b : Int) (Q : Int → Prop) : unI (.int b) Q ↔ Q b := ⟨fun ⟨_, e, q⟩ => by cases e; exact q, fun q => ⟨b, rfl, q⟩⟩
@[simp] def gPart (fa : GE) (σ : List SV) (Q : Option Int → Prop) : Prop := fa σ fun d => unI d fun i => Q (some i)
theorem od_none : OD B X none gNoPart := ⟨po_imp po_none fun s H Q ⟨σ, F, Qd, R, q, k⟩ => k _ q F H (Grow.refl R.ex) R.deck⟩
theorem od_some (ha : ED B X a fa) : OD B X (some a) (gPart fa) := ⟨po_imp (po_some ha.run) fun s H Q ⟨σ, F, Qd, R, q, k⟩ => ⟨σ, F, _, R, q, fun d ⟨i, e, q⟩ F' H' v g dk r => by
  subst e
  cases r
  exact ⟨i, rfl, k _ q F' H' g dk⟩⟩⟩
def cutG {α : Type} (xs : List α) (lo hi : Option Int) : List α := (xs.drop (HT.sIx xs.length 0 lo)).take (HT.sIx xs.length xs.length hi - HT.sIx xs.length 0 lo)
theorem Reps.cut {K : Kn} {F : Hp} {vs : List V} {ds : List D} (h : Reps K F vs ds) (lo hi : Option Int) : Reps K F (cutV vs lo hi) (cutG ds lo hi) := by
  unfold cutV cutG
  rw [h.length]
  exact (h.drop _).take _
def slD : D → Option Int → Option Int → (D → Prop) → Prop
  | .tup xs, lo, hi, Q => Q (.tup (cutG xs lo hi))
  | .lst xs, lo, hi, Q => Q (.lst (cutG xs lo hi))
  | .str z, lo, hi, Q => z.length ≤ sizeLine ∧ Q (.str (cutS z lo hi))
  | _, _, _, _ => False
def LSl (B : Bs) (K : Kn) (g : D → Option Int → Option Int → (D → Prop) → Prop) : V → Option Int → Option Int → Hp → VK → Prop := fun v lo hi H Q => ∃ F x Qd, Same F H ∧ DeckIn B.W F H ∧ RepB B.W K F H v x ∧ g x lo hi Qd ∧ Fin B K F H Qd Q
theorem slR_by {r' : V → Option Int → Option Int → Hp → VK → Prop} (w : ∀ v l h H Q, r' v l h H Q → ∃ r, SlR X r ∧ r v l h H Q) : SlR X r' := by
  intro pins s σ H x v vl vu lo hi sl Q I rx hs p1 p2 h
  obtain ⟨r, h1, h2⟩ := w _ _ _ _ _ h
  exact h1 pins s σ H x v vl vu lo hi sl Q I rx hs p1 p2 h2
theorem sIx_zero_full {α : Type} (xs : List α) (lo hi : Option Int) (h : HT.sIx xs.length 0 lo = 0 ∧ HT.sIx xs.length xs.length hi = xs.length) : cutG xs lo hi = xs := by
  unfold cutG
  rw [h.1, h.2]
  simp
theorem o_sl : SlR X (LSl B X.kn slD) := slR_by fun v lo hi H Q ⟨F, x, Qd, e, dk, r1, q, k⟩ => by
  unfold slD at q
  split at q
  · obtain ⟨a, vs, rfl, f1, h, s⟩ := r1.tup e
    refine ⟨_, sl_tupA, a, vs, rfl, h, fun z => ?_, fun z p hp => ?_⟩
    · rw [s.length] at z
      rw [sIx_zero_full _ _ _ z] at q
      exact k.here e dk q (.tup f1 s)
    · exact k.frz e dk q hp (.tup (SqT.of upd_same) ((s.cut _ _).mono (same_new (e.free hp))))
  · obtain ⟨a, vs, rfl, h, s⟩ := r1.lst e
    exact ⟨_, sl_list, a, vs, rfl, SqL.of h, fun p hp => k.frz e dk q hp (.lst upd_same ((s.cut _ _).mono (same_new (e.free hp))))⟩
  · exact ⟨_, sl_str, _, r1.str, q.1, k.here e dk q.2 (.str _)⟩
  · exact q.elim
@[simp] def gSl (g : D → Option Int → Option Int → (D → Prop) → Prop) (fa : GE) (fl fh : GO) (σ : List SV) (Q : D → Prop) : Prop := fa σ fun x => fl σ fun l => fh σ fun h => g x l h Q
theorem ed_sl {lo hi : Option Expr} {fl fh : GO} {p2 : Pos} (ha : BD B X a fa) (hl : OD B X lo fl) (hh : OD B X hi fh) : ED B X (.Subscript a (.Slice lo hi none p2) pos) (gSl slD fa fl fh) :=
  ⟨pe_imp (pe_slice o_sl ha.run hl.run hh.run) fun s H Q ⟨σ, F, Qd, R, q, k⟩ => ⟨σ, F, _, R, q, fun x qx F1 H1 v g1 d1 r1 => ⟨σ, F1, _, R.grow g1 d1, qx, fun l ql F2 H2 g2 d2 =>
    ⟨σ, F2, _, R.grow (g1.trans g2) d2, ql, fun h qh F3 H3 g3 d3 => ⟨F3, x, Qd, g3.fh, d3, (r1.grow g2).grow g3, qh, k.more ((g1.trans g2).trans g3)⟩⟩⟩⟩⟩
def repF : D → D → (List D → Prop) → Prop
  | .lst xs, .int k, Q => 0 ≤ k ∧ k < 2 ^ 63 ∧ xs.length * k.toNat ≤ sizeLine ∧ Q (List.replicate k.toNat xs).flatten
  | _, _, _ => False
def LOF (B : Bs) (K : Kn) (g : D → D → (List D → Prop) → Prop) : R2 := fun v u H Q => ∃ F x y Qd, Same F H ∧ DeckIn B.W F H ∧ RepB B.W K F H v x ∧ RepB B.W K F H u y ∧ g x y Qd ∧ FinF B K F H Qd Q
@[simp] def gBinF (g : D → D → (List D → Prop) → Prop) (fa fb : GE) (σ : List SV) (Q : List D → Prop) : Prop := fa σ fun x => fb σ fun y => g x y Q
theorem o_repF : OpR X (binaryOp .Mult) (LOF B X.kn repF) := opR_by fun v u H Q ⟨F, x, y, Qd, e, dk, r1, r2, q, k⟩ => by
  unfold repF at q
  split at q
  · obtain ⟨a, vs, rfl, h1, s1⟩ := r1.lst e
    obtain ⟨q0, q1, q2, q3⟩ := q
    exact ⟨_, op_rep, a, _, vs, rfl, r2.int, h1, by omega, q1, by rw [s1.length]; exact q2, fun p hp => k.laid e dk q3 hp (s1.rep _)⟩
  · exact q.elim
theorem fd_bin {op : Operator} {g : D → D → (List D → Prop) → Prop} (ho : OpR X (binaryOp op) (LOF B X.kn g)) (ha : BD B X a fa) (hb : BD B X b fb) : FD B X (.BinOp a op b pos) (gBinF g fa fb) :=
  ⟨pe_imp (pe_op ho ha.run hb.run) fun s H Q ⟨σ, F, Qd, R, q, k⟩ => lb_two (Qd := fun x y => g x y Qd) R q fun x y F' H' v u q g' d r1 r2 => ⟨F', x, y, Qd, g'.fh, d, r1, r2, q, k.more g'⟩⟩
end
end ND

/-! ND4: what a def promises, by data; calls -/
namespace ND
open PySem PySem.Spec L2
open PyProof.Rows (envOfC)

/-- an error: its class's name, its attributes -/
structure Er where
  nm : Str
  fs : List (Str × D)
/-- the exception of the class c with the dict o -/
def RepEr (K : Kn) (F H : Hp) (c : Value) (o : Option Addr) (er : Er) : Prop :=
  K.mg er.nm = some c ∧ (er.fs ≠ [] → ∃ a vs, o = some a ∧ H a = some (.xd vs) ∧ RepFs K F vs er.fs) ∧ (er.fs = [] → o = none)
/-- what a def promises: the deck, the arguments, what is wanted of the answer, of an error -/
abbrev DSp := WD → List D → (D → Prop) → (Er → Prop) → Prop
def FinE (W : WT) (K : Kn) (F H : Hp) (Rd : Er → Prop) (E : XK) : Prop := ∀ er, Rd er → ∀ F' H' c o, Grow W F H F' H' → DeckIn W F' H' → RepEr K F' H' c o er → E c o H'
theorem FinE.more {W : WT} {K : Kn} {F H F' H' : Hp} {Rd : Er → Prop} {E : XK} (h : FinE W K F H Rd E) (g : Grow W F H F' H') : FinE W K F' H' Rd E := fun er q F2 H2 c o g2 d r => h er q F2 H2 c o (g.trans g2) d r
theorem FinE.none {W : WT} {K : Kn} {F H : Hp} : FinE W K F H (fun _ => False) E0 := fun _ q _ _ _ _ _ _ _ => q
def liftSp (K : Kn) (T : List (Addr × Str)) (sp : DSp) : Sp := fun vs H Q E => ∃ (W : WD) (F : Hp) (ds : List D) (Qd : D → Prop) (Rd : Er → Prop), Same F H ∧ DeckIn ⟨W, T⟩ F H ∧ Reps K F vs ds ∧ sp W ds Qd Rd ∧ Fin ⟨⟨W, T⟩, F, H⟩ K F H Qd Q ∧ FinE ⟨W, T⟩ K F H Rd E

/-- as FnOk, where nothing is being shown around -/
structure FnG (P : Program) (w : World) (K : PySem.W.Frag) (mg : Str → Option Value) (base : Heap) (k : Nat) (f : Addr) (fd : FuncData) (ps : List Str) (sp : Sp) : Prop where
  len : ∀ vs H Q E, sp vs H Q E → vs.length = ps.length
  run : ∀ (A : Around) (outer : List Env) (s : Shared) (H : Hp) (args : Args) (us : List Value) (vs : List V) (Q : VK) (E : XK), A.guards = some [] → Room k A → Env0 P w K mg base A outer s H → BindsTo s fd args (ps.zip us) → Vals vs us → sp vs H Q E →
    codeAny (model P w) A (.call (.ref f) args) (CR (L2.CX P w) outer P w H s Q E) s
theorem FnG.of {P : Program} {w : World} {K : PySem.W.Frag} {mg : Str → Option Value} {base : Heap} {k : Nat} {f : Addr} {fd : FuncData} {ps : List Str} {sp : Sp} (F : FnOk P w K mg base (L2.CX P w) k f fd ps sp) : FnG P w K mg base k f fd ps sp :=
  ⟨F.len, fun A outer s H args us vs Q E _ => F.run A outer s H args us vs Q E⟩
section
variable {P : Program} {w : World} {K : PySem.W.Frag} {mg : Str → Option Value} {base : Heap} {k : Nat} {f : Addr} {qual name : Str} {scope : Scope} {cdv : Value} {N ps : List Str}
/-- how a body ends is how its call ends -/
theorem ends_call {A : Around} {outer : List Env} {s z : Shared} {H : Hp} {E : XK} {Q : VK} : ∀ {fl : Flow}, SP (cxOf (L2.CX P w) P w K mg base N qual scope f cdv A outer s H E) [] { nx := fun _ G => Q .non G, rt := Q } fl z →
    match fl with | .ret u => CE outer P w H s Q u z | .next => CE outer P w H s Q .none z | _ => False
  | .next, ⟨_, G, I, q⟩ => ⟨.non, G, I.os, I.bare, I.base, I.hok, rfl, q⟩
  | .ret _, ⟨v, _, G, I, r, q⟩ => ⟨v, G, I.os, I.bare, I.base, I.hok, r, q⟩
  | .brk, ⟨_, _, _, q⟩ => q
  | .cont, ⟨_, _, _, q⟩ => q
theorem par_kinds (S : FnScope N ps scope) {us : List Value} {n : Nat} : ∀ y ∈ ps.zip us, scope.names.lookup y.1 = some .local ∨ (scope.names.lookup y.1 = some .cell ∧ ((cellsFrom n scope.names []).lookup y.1).isSome = true) :=
  fun y hy => (S.par y.1 (List.of_mem_zip (show (y.1, y.2) ∈ _ from hy)).1).imp id fun q => ⟨q, PySem.W.cellsFrom_some _ _ _ (.inl q)⟩
/-- a def by its body, where nothing is being shown around -/
theorem fn_ofG {params : Arguments} {body : List Stmt} {dV kV doc pm ct oc : Value} {an od : Option Addr} {osl : Array (Option Value)} {sp : Sp}
    (at_f : K.lookup f = some ⟨oc, od, .func (PySem.W.fnOf name qual params body scope dV kV doc pm an cdv ct), osl⟩) (code : PySem.W.codeIn K cdv qual = true) (S : FnScope N ps scope) (cnt : ∀ vs H Q E, sp vs H Q E → vs.length = ps.length)
    (walk : ∀ (A : Around) (outer : List Env) (s : Shared) (H : Hp) (vs : List V) (Q : VK) (E : XK), (A.deeper (envOfC qual scope s.heap.objs.size f cdv)).guards = some [] → Room k (A.deeper (envOfC qual scope s.heap.objs.size f cdv)) → sp vs H Q E →
      ∃ t, PSs (cxOf (L2.CX P w) P w K mg base N qual scope f cdv A outer s H E) body t ∧ t { nx := fun _ G => Q .non G, rt := Q } (start N vs) H) :
    FnG P w K mg base (k + 1) f (PySem.W.fnOf name qual params body scope dV kV doc pm an cdv ct) ps sp :=
  ⟨cnt, fun A outer s H args us vs Q E quiet room env bound vals want => by
    have stands : ∀ b o, base.get? b = some o → s.heap.get? b = some o := fun b o e => (env.bs b o e).1
    have inK := env.mod.kin.keeps stands
    obtain ⟨t, does, goal⟩ := walk A outer s H vs Q E quiet (room.deeper _) want
    exact codeAny_call_function room.depth (inK _ _ at_f) rfl S.co S.gen rfl (PySem.W.codeRec_of inK code) (bound _ _ _ _ (wpAny_newFunctionEnv_cells S.kind (par_kinds S) fun e same z entered => by
      cases same
      exact ⟨(env.mod.nolimit.keeps stands).keeps entered.toInCall.keep, codeAny_func (wpAny_mono (does.run [] z (start N vs) H _ (inv_start S room.hd env (cnt _ _ _ _ want) vals entered) goal)
        (fun fl z2 q => by
          have r := ends_call q
          cases fl <;> first | exact r | exact r.elim) fun _ _ q => q)⟩))⟩
end

/-! ### calls of a def of the module, by position -/
@[simp] def gCall (sp : DSp) (W : WD) (R : Er → Prop) (fs : GA) (σ : List SV) (Q : D → Prop) : Prop := fs σ fun ds => sp W ds Q R
section
variable {B : Bs} {X : Cx} {k : Nat} {f : Addr} {fd : FuncData} {ps : List Str} {sp : DSp} {R : Er → Prop} {E : XK} {x : Str} {p pos : Pos} {e : Expr} {es : List Expr} {fs : GA}
theorem la_call {s : L2.St} {σ : List SV} {F H : Hp} {Qd : D → Prop} {Q : VK} {K : Kn} (hE : FinE B.W K B.F B.H R E) (Rl : Rel B K σ s F H) (q : gCall sp B.W.p R fs σ Qd) (kf : Fin B K F H Qd Q) : LA B K fs s H fun vs H1 => liftSp K B.W.T sp (vs ++ []) H1 Q E :=
  ⟨σ, F, _, Rl, q, fun ds qds F1 H1 vs g1 d1 r1 => ⟨B.W.p, F1, ds, Qd, R, g1.fh, d1, by rw [List.append_nil]; exact r1, qds, fun d qd F2 H2 v g2 d2 r2 => kf d qd F2 H2 v (g1.trans g2) d2 r2, hE.more (Rl.base.trans g1)⟩⟩
theorem ed_call (G : FnOk X.prog X.w X.K X.mg X.base (L2.CX X.prog X.w) k f fd ps (liftSp X.kn B.W.T sp)) (hr : Room k X.A) (hg : Gl X x) (hm : X.mg x = some (.ref f)) (hk : PySem.W.keepIn X.K (.ref f) = true) (hb : Binds X.K fd ps []) (hx : Passes (L2.CX X.prog X.w) X E) (hE : FinE B.W X.kn B.F B.H R E)
    (ha : AD B X (e :: es) fs) (hdb : (x == ("__debug__" : Str)) = false := by decide) (he : starEach (e :: es) X.env = (false, eval e X.env) :: starEach es X.env := by rfl) (hpl : (backTo pos (starEach es X.env)).any (·.1) = false := by rfl) :
    ED B X (.Call (.Name x p) (e :: es) [] pos) (gCall sp B.W.p R fs) :=
  ⟨pe_imp (pe_call G hr hg hm hk hb .nil hx ha.run hdb he hpl) fun s H Q ⟨σ, F, Qd, Rl, q, kf⟩ => la_call hE Rl q kf⟩
/-- a call's end, back in the caller -/
theorem back_in {pins : List (Addr × Obj)} {σ : L2.St} {H : Hp} {s z : Shared} {Q : VK} (I : Inv X pins σ H s) (lets : Passes (L2.CX X.prog X.w) X E) : ∀ {r : Result}, CR (L2.CX X.prog X.w) X.stack X.prog X.w H s Q E r z →
    match r with | .ok (.ret u) => EP X pins σ Q u z | .ok _ => False | .error e => X.xe e z
  | .ok (.ret _), h => I.after h
  | .ok .next, h => h
  | .ok .brk, h => h
  | .ok .cont, h => h
  | .error _, h => lets _ _ _ _ _ _ I h
theorem pe_callG {sp : Sp} {t : TA} (F : FnG X.prog X.w X.K X.mg X.base k f fd ps sp) (quiet : X.A.guards = some []) (room : Room k X.A) (glob : Gl X x) (isf : X.mg x = some (.ref f)) (kept : PySem.W.keepIn X.K (.ref f) = true) (bind : Binds X.K fd ps []) (lets : Passes (L2.CX X.prog X.w) X E) (args : PA X (e :: es) t)
    (ndb : (x == ("__debug__" : Str)) = false := by decide) (star : starEach (e :: es) X.env = (false, eval e X.env) :: starEach es X.env := by rfl) (plain : (backTo pos (starEach es X.env)).any (·.1) = false := by rfl) :
    PE X (.Call (.Name x p) (e :: es) [] pos) (fun σ H Q => t σ H fun vs G => sp vs G Q E) :=
  ⟨fun pins s σ H Q I h => wpAny_Call_Name_kw (ld_glob I glob isf (PySem.W.callWith_K (h₀ := X.base) I.ok.mod.kin kept (thn (args.run pos pins s σ H _ I h) fun us z ⟨vs, G, J, vals, q⟩ => ⟨J.kIn, by
    have n : us.length = ps.length := (Vals.length vals).symm.trans (F.len _ _ _ _ q)
    have bd := bind z us J.kIn (by rw [List.append_nil]; exact n)
    rw [List.append_nil] at bd
    refine wpAny_call (codeAny_mono (F.run X.A X.stack z G ⟨us, []⟩ us vs Q E quiet room J.env0 bd vals q) fun r z2 o => ?_)
    have b := back_in J lets o
    rcases r with _ | fl
    · exact b
    · cases fl <;> first | exact b | exact b.elim⟩) star plain) ndb)⟩
theorem ed_callG (G : FnG X.prog X.w X.K X.mg X.base k f fd ps (liftSp X.kn B.W.T sp)) (hG : X.A.guards = some []) (hr : Room k X.A) (hg : Gl X x) (hm : X.mg x = some (.ref f)) (hk : PySem.W.keepIn X.K (.ref f) = true) (hb : Binds X.K fd ps []) (hx : Passes (L2.CX X.prog X.w) X E) (hE : FinE B.W X.kn B.F B.H R E)
    (ha : AD B X (e :: es) fs) (hdb : (x == ("__debug__" : Str)) = false := by decide) (he : starEach (e :: es) X.env = (false, eval e X.env) :: starEach es X.env := by rfl) (hpl : (backTo pos (starEach es X.env)).any (·.1) = false := by rfl) :
    ED B X (.Call (.Name x p) (e :: es) [] pos) (gCall sp B.W.p R fs) :=
  ⟨pe_imp (pe_callG G hG hr hg hm hk hb hx ha.run hdb he hpl) fun s H Q ⟨σ, F, Qd, Rl, q, kf⟩ => by
    have z := la_call (s := s) (Q := Q) hE Rl q kf
    simpa using z⟩

/-! ### by keywords: n positional values, m by keyword, put in the order pm -/
def permA {α : Type} (n m : Nat) (pm : List Nat) (us ws : List α) : List α := if us.length = n ∧ ws.length = m then pm.filterMap fun i => (us ++ ws)[i]? else []
theorem paired_app {α β : Type} {R : α → β → Prop} : ∀ {a c : List α} {b d : List β}, Paired R a b → Paired R c d → Paired R (a ++ c) (b ++ d)
  | _, _, _, _, .nil, h => h
  | _, _, _, _, .cons r t, h => .cons r (paired_app t h)
theorem paired_at {α β : Type} {R : α → β → Prop} : ∀ {a : List α} {b : List β} (i : Nat), Paired R a b → (a[i]? = none ∧ b[i]? = none) ∨ ∃ x y, a[i]? = some x ∧ b[i]? = some y ∧ R x y
  | _, _, _, .nil => .inl ⟨by simp, by simp⟩
  | _, _, 0, .cons r _ => .inr ⟨_, _, rfl, rfl, r⟩
  | _, _, i + 1, .cons _ t => by simpa using paired_at i t
theorem paired_pick {α β : Type} {R : α → β → Prop} {a : List α} {b : List β} (h : Paired R a b) : ∀ pm : List Nat, Paired R (pm.filterMap fun i => a[i]?) (pm.filterMap fun i => b[i]?)
  | [] => .nil
  | i :: pm => by
    rw [List.filterMap_cons, List.filterMap_cons]
    rcases paired_at i h with ⟨e1, e2⟩ | ⟨x, y, e1, e2, r⟩
    · rw [e1, e2]
      exact paired_pick h pm
    · rw [e1, e2]
      exact .cons r (paired_pick h pm)
theorem paired_len {α β : Type} {R : α → β → Prop} {a : List α} {b : List β} (h : Paired R a b) : a.length = b.length := Paired.length h
theorem paired_perm {α β : Type} {R : α → β → Prop} {n m : Nat} {pm : List Nat} {us ws : List α} {us' ws' : List β} (h : Paired R us us') (h' : Paired R ws ws') : Paired R (permA n m pm us ws) (permA n m pm us' ws') := by
  unfold permA
  rw [paired_len h, paired_len h']
  split
  · exact paired_pick (paired_app h h') pm
  · exact .nil
theorem Reps.pair {K : Kn} {F : Hp} : ∀ {vs : List V} {ds : List D}, Reps K F vs ds → Paired (Rep K F) vs ds
  | _, _, .nil => .nil
  | _, _, .cons r t => .cons r (Reps.pair t)
theorem Reps.of_pair {K : Kn} {F : Hp} : ∀ {vs : List V} {ds : List D}, Paired (Rep K F) vs ds → Reps K F vs ds
  | _, _, .nil => .nil
  | _, _, .cons r t => .cons r (Reps.of_pair t)
theorem kb_perm {K : PySem.W.Frag} {ks : List Str} {n m : Nat} {pm : List Nat} (hp : ps ≠ []) (h : ∀ us ws : List Value, us.length = n → ws.length = m → bindArgs fd ⟨us, ks.zip ws⟩ = pure (ps.zip (permA n m pm us ws))) : KBinds K fd ps ks (permA n m pm) (permA n m pm) :=
  ⟨fun s us ws _ hl => by
    have hc : us.length = n ∧ ws.length = m := by
      by_cases c : us.length = n ∧ ws.length = m
      · exact c
      · exfalso
        unfold permA at hl
        rw [if_neg c] at hl
        cases ps with
        | nil => exact hp rfl
        | cons _ _ => simp at hl
    exact .of_eq (h us ws hc.1 hc.2), fun r1 r2 => paired_perm r1 r2⟩
structure KD (B : Bs) (X : Cx) (kws : List Keyword) (f : GA) : Prop where
  run : PK X kws (LA B X.kn f)
theorem pk_imp {X : Cx} {kws : List Keyword} {t t' : TA} (h : PK X kws t) (w : ∀ s H Q, t' s H Q → t s H Q) : PK X kws t' := ⟨fun pos pins s σ H Q I q => h.run pos pins s σ H Q I (w _ _ _ q)⟩
theorem kd_nil : KD B X [] gNil := ⟨pk_imp pk_nil fun s H Q ⟨σ, F, Qd, R, q, k⟩ => k _ q F H _ (Grow.refl R.ex) R.deck .nil⟩
theorem kd_cons {nm : Option Str} {kpos : Pos} {kws : List Keyword} {fa : GE} (ha : ED B X e fa) (hr : KD B X kws fs) : KD B X (⟨nm, e, kpos⟩ :: kws) (gCons fa fs) :=
  ⟨pk_imp (pk_cons ha.run hr.run) fun s H Q ⟨σ, F, Qd, R, q, k⟩ => ⟨σ, F, _, R, q, fun d qd F1 H1 v g1 d1 r1 => ⟨σ, F1, _, R.grow g1 d1, qd, fun ds qds F2 H2 vs g2 d2 r2 => k _ qds F2 H2 _ (g1.trans g2) d2 (.cons (r1.mono g2.ff) r2)⟩⟩⟩
/-- f(e, .., k = v, ..) or f(k = v, ..) -/
@[simp] def gCallK (sp : DSp) (n m : Nat) (pm : List Nat) (W : WD) (R : Er → Prop) (fs fk : GA) (σ : List SV) (Q : D → Prop) : Prop := fs σ fun us => fk σ fun ws => sp W (permA n m pm us ws) Q R
variable {ks : List Str} {kws : List Keyword} {fk : GA} {n m : Nat} {pm : List Nat}
theorem pe_callK0 {sp : Sp} {gV : List V → List V → List V} {g : List Value → List Value → List Value} {tk : TA} (F : FnOk X.prog X.w X.K X.mg X.base (L2.CX X.prog X.w) k f fd ps sp) (room : Room k X.A) (glob : Gl X x) (isf : X.mg x = some (.ref f)) (kept : PySem.W.keepIn X.K (.ref f) = true)
    (bind : KBinds X.K fd ps ks g gV) (lets : Passes (L2.CX X.prog X.w) X E) (named : PK X kws tk) (each : (backToKw pos (keywordEach kws X.env)).all (·.1.isSome) = true := by rfl) (order : (backToKw pos (keywordEach kws X.env)).filterMap (·.1) = ks := by rfl) (ndb : (x == ("__debug__" : Str)) = false := by decide)
    (plain : ((backTo pos (starEach [] X.env)).any (·.1) || (backToKw pos (keywordEach kws X.env)).any (·.1.isNone)) = false := by rfl) : PE X (.Call (.Name x p) [] kws pos) (tCallK sp gV E tNil tk) :=
  ⟨fun pins s σ H Q I h => wpAny_Call_Name_kw (ld_glob I glob isf (PySem.W.callWith_KW0 (h₀ := X.base) I.ok.mod.kin kept each (thn (named.run pos pins s σ H _ I h) fun ws z ⟨zs, G, J, vals, q⟩ => ⟨J.kIn, order ▸ run_fnk (us := []) (vs := []) F room bind lets J .nil vals q⟩) plain) ndb)⟩
theorem ed_callK0 (G : FnOk X.prog X.w X.K X.mg X.base (L2.CX X.prog X.w) k f fd ps (liftSp X.kn B.W.T sp)) (hr : Room k X.A) (hg : Gl X x) (hm : X.mg x = some (.ref f)) (hk : PySem.W.keepIn X.K (.ref f) = true) (hb : KBinds X.K fd ps ks (permA n m pm) (permA n m pm)) (hx : Passes (L2.CX X.prog X.w) X E) (hE : FinE B.W X.kn B.F B.H R E)
    (hkw : KD B X kws fk) (hall : (backToKw pos (keywordEach kws X.env)).all (·.1.isSome) = true := by rfl) (hks : (backToKw pos (keywordEach kws X.env)).filterMap (·.1) = ks := by rfl)
    (hdb : (x == ("__debug__" : Str)) = false := by decide)
    (hpl : ((backTo pos (starEach [] X.env)).any (·.1) || (backToKw pos (keywordEach kws X.env)).any (·.1.isNone)) = false := by rfl) :
    ED B X (.Call (.Name x p) [] kws pos) (gCallK sp n m pm B.W.p R gNil fk) :=
  ⟨pe_imp (pe_callK0 G hr hg hm hk hb hx hkw.run hall hks hdb hpl) fun s H Q ⟨σ, F, Qd, Rl, q, kf⟩ => ⟨σ, F, _, Rl, q, fun zs qzs F2 H2 ws g2 d2 r2 => ⟨B.W.p, F2, _, Qd, R, g2.fh, d2, Reps.of_pair (paired_perm .nil r2.pair), qzs,
    fun d qd F3 H3 v g3 d3 r3 => kf d qd F3 H3 v (g2.trans g3) d3 r3, hE.more (Rl.base.trans g2)⟩⟩⟩
end
end ND

/-! ND5: statements, loops -/
namespace ND
open PySem PySem.Spec L2
open PyProof.Rows (envOfC)

/-- what is wanted behind a statement, by data -/
structure Ed where
  nx : List SV → Prop
  rt : D → Prop
  bk : List SV → Prop
  ct : List SV → Prop
abbrev GS := Ed → List SV → Prop
structure EdOk (B : Bs) (K : Kn) (F : Hp) (E : Ed) (Dn : Ends) : Prop where
  nx : ∀ σ s F' H, Same F F' → Rel B K σ s F' H → E.nx σ → Dn.nx s H
  rt : ∀ d v F' H, Grow B.W B.F B.H F' H → DeckIn B.W F' H → Rep K F' v d → E.rt d → Dn.rt v H
  bk : ∀ σ s F' H, Same F F' → Rel B K σ s F' H → E.bk σ → Dn.bk s H
  ct : ∀ σ s F' H, Same F F' → Rel B K σ s F' H → E.ct σ → Dn.ct s H
def LS (B : Bs) (K : Kn) (g : GS) : TS := fun Dn s H => ∃ σ F E, Rel B K σ s F H ∧ g E σ ∧ EdOk B K F E Dn
structure SD (B : Bs) (X : Cx) (st : Stmt) (g : GS) : Prop where
  run : PS X st (LS B X.kn g)
structure SDs (B : Bs) (X : Cx) (sts : List Stmt) (g : GS) : Prop where
  run : PSs X sts (LS B X.kn g)
theorem EdOk.more {B : Bs} {K : Kn} {F F' : Hp} {E : Ed} {Dn : Ends} (h : EdOk B K F E Dn) (e : Same F F') : EdOk B K F' E Dn :=
  ⟨fun σ s F2 H a => h.nx σ s F2 H (e.trans a), h.rt, fun σ s F2 H a => h.bk σ s F2 H (e.trans a), fun σ s F2 H a => h.ct σ s F2 H (e.trans a)⟩
theorem ps_imp {X : Cx} {st : Stmt} {t t' : TS} (h : PS X st t) (w : ∀ Dn s H, t' Dn s H → t Dn s H) : PS X st t' := ⟨fun pins s σ H Dn I q => h.run pins s σ H Dn I (w _ _ _ q)⟩
theorem pss_imp {X : Cx} {st : List Stmt} {t t' : TS} (h : PSs X st t) (w : ∀ Dn s H, t' Dn s H → t Dn s H) : PSs X st t' := ⟨fun pins s σ H Dn I q => h.run pins s σ H Dn I (w _ _ _ q)⟩

@[simp] def gSkip (E : Ed) (σ : List SV) : Prop := E.nx σ
@[simp] def gSeq (g h : GS) (E : Ed) (σ : List SV) : Prop := g { E with nx := h E } σ
@[simp] def gDrop (fa : GE) (E : Ed) (σ : List SV) : Prop := fa σ fun _ => E.nx σ
@[simp] def gSet (i : Nat) (fa : GE) (E : Ed) (σ : List SV) : Prop := fa σ fun d => E.nx (σ.set i (.d d))
@[simp] def gSetL (i : Nat) (fa : GA) (E : Ed) (σ : List SV) : Prop := fa σ fun ds => E.nx (σ.set i (.ol ds))
@[simp] def gRet (fa : GE) (E : Ed) (σ : List SV) : Prop := fa σ E.rt
@[simp] def gIfS (ft : GT) (g h : GS) (E : Ed) (σ : List SV) : Prop := ft σ fun b => iteB b (g E σ) (h E σ)
/-- a slot of one's own becomes data -/
def fz (i : Nat) (σ : List SV) : List SV := match σ[i]? with
  | some (.ol xs) => σ.set i (.d (.lst xs))
  | some (.od ks) => σ.set i (.d (.dic ks))
  | _ => σ
def gFz (i : Nat) (g : GS) : GS := fun E σ => g E (fz i σ)

section
variable {B : Bs} {X : Cx} {e a b c : Expr} {es : List Expr} {fa fb : GE} {fs : GA} {ft : GT} {g h : GS} {pos : Pos} {st : Stmt} {rest sts sts' : List Stmt}
theorem sds_nil : SDs B X [] gSkip := ⟨pss_imp pss_nil fun Dn s H ⟨σ, F, E, R, q, k⟩ => k.nx σ s F H (Same.refl F) R q⟩
theorem sds_cons (h1 : SD B X st g) (h2 : SDs B X rest h) : SDs B X (st :: rest) (gSeq g h) :=
  ⟨pss_imp (pss_cons h1.run h2.run) fun Dn s H ⟨σ, F, E, R, q, k⟩ => ⟨σ, F, { E with nx := h E }, R, q, ⟨fun σ' s' F' H' e R' q' => ⟨σ', F', E, R', q', k.more e⟩, k.rt, k.bk, k.ct⟩⟩⟩
theorem sds_one (h1 : SD B X st g) : SDs B X [st] g := ⟨pss_one h1.run⟩
theorem sd_drop (ha : BD B X e fa) (hs : swapsWith e none pos.line X.env = pure false := by rfl) : SD B X (.Expr e pos) (gDrop fa) :=
  ⟨ps_imp (ps_expr ha.run hs) fun Dn s H ⟨σ, F, E, R, q, k⟩ => ⟨σ, F, _, R, q, fun d qd F' H' v g dk r => k.nx σ s F' H' g.ff (R.grow g dk) qd⟩⟩
theorem sd_set {i : Nat} {x : Str} {pos' : Pos} (hN : X.N.Nodup) (hi : X.N[i]? = some x) (hx : Loc X.env.scope x) (ha : ED B X e fa) (hs : swapsWith e (some (.Name x pos')) pos.line X.env = pure false := by rfl) (hf : X.fn x = true ∨ X.env.scope.names.lookup x = some .local := by first | exact .inl rfl | exact .inr rfl | assumption) :
    SD B X (.Assign [.Name x pos'] e pos) (gSet i fa) :=
  ⟨ps_imp (ps_set hN hi hx ha.run hs hf) fun Dn s H ⟨σ, F, E, R, q, k⟩ => ⟨σ, F, _, R, q, fun d qd F' H' v g dk r => k.nx _ _ F' H' g.ff ((R.grow g dk).set r) qd⟩⟩
theorem sd_setL {i : Nat} {x : Str} {pos' : Pos} (hN : X.N.Nodup) (hi : X.N[i]? = some x) (hx : Loc X.env.scope x) (ha : FD B X e fs) (hs : swapsWith e (some (.Name x pos')) pos.line X.env = pure false := by rfl) (hf : X.fn x = true ∨ X.env.scope.names.lookup x = some .local := by first | exact .inl rfl | exact .inr rfl | assumption) :
    SD B X (.Assign [.Name x pos'] e pos) (gSetL i fs) :=
  ⟨ps_imp (ps_set hN hi hx ha.run hs hf) fun Dn s H ⟨σ, F, E, R, q, k⟩ => ⟨σ, F, _, R, q, fun ds qd F' H' p vs g dk hp fp ep r => k.nx _ _ F' H' g.ff (R.setNew (x := .ol ds) g dk hp fp ⟨rfl, vs, ep, r⟩) qd⟩⟩
theorem sd_ret (ha : ED B X e fa) : SD B X (.Return (some e) pos) (gRet fa) :=
  ⟨ps_imp (ps_ret ha.run) fun Dn s H ⟨σ, F, E, R, q, k⟩ => ⟨σ, F, _, R, q, fun d qd F' H' v g dk r => k.rt d v F' H' (R.base.trans g) dk r qd⟩⟩
theorem sd_if (hc : TD B X c ft) (h1 : SDs B X sts g) (h2 : SDs B X sts' h) : SD B X (.If c sts sts' pos) (gIfS ft g h) :=
  ⟨ps_imp (ps_if hc.run h1.run h2.run) fun Dn s H ⟨σ, F, E, R, q, k⟩ => ⟨σ, F, _, R, q, fun d qd F' H' g dk => by
    cases d with
    | true => exact ⟨σ, F', E, R.grow g dk, qd, k.more g.ff⟩
    | false => exact ⟨σ, F', E, R.grow g dk, qd, k.more g.ff⟩⟩⟩
theorem ls_fz {K : Kn} {i : Nat} {Dn : Ends} {s : L2.St} {H : Hp} (h : LS B K (gFz i g) Dn s H) : LS B K g Dn s H := by
  obtain ⟨σ, F, E, R, q, k⟩ := h
  unfold gFz fz at q
  split at q
  · rename_i xs e
    obtain ⟨a, vs, h1, h2, h3, h4, h5, h6⟩ := R.ownL e
    exact ⟨_, upd F a (.lst vs), E, R.freeze e h1 h2 h5 h6 h4 (.inl ⟨_, rfl⟩) (.lst upd_same (h3.mono (same_new h5))), q, k.more (same_new h5)⟩
  · rename_i xs e
    obtain ⟨a, vs, h1, h2, h3, h4, h5, h6⟩ := R.ownD e
    exact ⟨_, upd F a (.dK vs), E, R.freeze e h1 h2 h5 h6 h4 (.inr (.inl ⟨_, rfl⟩)) (.dic upd_same (h3.mono (same_new h5))), q, k.more (same_new h5)⟩
  · exact ⟨σ, F, E, R, q, k⟩
theorem sd_fz (i : Nat) (h : SD B X st g) : SD B X st (gFz i g) := ⟨ps_imp h.run fun _ _ _ q => ls_fz q⟩

/-! ### several targets -/
/-- the slots is take the data ds -/
@[simp] def setAll : List Nat → List D → List SV → List SV
  | i :: is, d :: ds, σ => setAll is ds (σ.set i (.d d))
  | _, _, σ => σ
def setAllV : List Nat → List V → L2.St → L2.St
  | i :: is, v :: vs, s => setAllV is vs (s.set i (some v))
  | _, _, s => s
theorem Rel.sets {K : Kn} {F H : Hp} : ∀ {is : List Nat} {ds : List D} {vs : List V} {σ : List SV} {s : L2.St}, Rel B K σ s F H → Reps K F vs ds → Rel B K (setAll is ds σ) (setAllV is vs s) F H
  | [], ds, vs, σ, s, R, h => by
    cases ds <;> cases vs <;> exact R
  | i :: is, [], vs, σ, s, R, h => by
    cases h
    exact R
  | i :: is, d :: ds, vs, σ, s, R, h => by
    cases h with
    | @cons v vs _ _ r t =>
      show Rel B K (ND.setAll is ds (σ.set i (.d d))) (setAllV is vs (s.set i (some v))) F H
      exact Rel.sets (R.set r) t
def unT (n : Nat) (d : D) (Q : List D → Prop) : Prop := ∃ ds, d = .tup ds ∧ ds.length = n ∧ Q ds
@[simp] theorem unT_t (n : Nat) (b : List D) (Q : List D → Prop) : unT n (.tup b) Q ↔ b.length = n ∧ Q b := ⟨fun ⟨_, e, q⟩ => by cases e; exact q, fun q => ⟨b, rfl, q⟩⟩
@[simp] def gSetT (is : List Nat) (fa : GE) (E : Ed) (σ : List SV) : Prop := fa σ fun d => unT is.length d fun ds => E.nx (setAll is ds σ)
/-- targets: names in the slots is -/
structure NamesAt (X : Cx) (ts : List Expr) (is : List Nat) : Prop where
  run : PGs X ts fun vs σ H Q => vs.length = is.length ∧ Q (setAllV is vs σ) H
theorem na_nil : NamesAt X [] [] := ⟨⟨fun pins s σ H vs us Q I r h => by
  obtain ⟨h1, h2⟩ := h
  cases vs with
  | nil => exact pgs_nil.run pins s σ H [] us Q I r ⟨rfl, h2⟩
  | cons _ _ => simp at h1⟩⟩
theorem na_cons {i : Nat} {is : List Nat} {t : Expr} {ts : List Expr} (h1 : PG X t (gName i)) (h2 : NamesAt X ts is) (hs : (assignEach (t :: ts) X.env).map (·.2) = assign t X.env :: (assignEach ts X.env).map (·.2) := by rfl) : NamesAt X (t :: ts) (i :: is) := ⟨⟨fun pins s σ H vs us Q I r h => by
  obtain ⟨hl, hq⟩ := h
  cases vs with
  | nil => simp at hl
  | cons v vs => exact (pgs_cons h1 h2.run hs).run pins s σ H _ us Q I r ⟨v, vs, rfl, by simpa using hl, hq⟩⟩⟩
theorem sd_setT {is : List Nat} {ts : List Expr} {kt : Nat} {pt : Pos} (hc : X.calm = true) (hn : NamesAt X ts is) (ha : ED B X e fa) (hs : swapsWithSole [.Tuple ts kt pt] e pos.line X.env = pure false := by rfl) (hw : swappedStores [.Tuple ts kt pt] e X.env = pure none := by rfl)
    (h1 : (assignEach [.Tuple ts kt pt] X.env).map (·.2) = [assign (.Tuple ts kt pt) X.env] := by rfl) (hl : (assignEach ts X.env).length = is.length := by rfl) (hst : (assignEach ts X.env).findIdx? (·.1) = none := by rfl) :
    SD B X (.Assign [.Tuple ts kt pt] e pos) (gSetT is fa) :=
  ⟨ps_imp (ps_asg ha.run (pg_tup hc hn.run hl hst) hs hw h1) fun Dn s H ⟨σ, F, E, R, q, k⟩ => ⟨σ, F, _, R, q, fun d ⟨ds, e, hl, qd⟩ F' H' v g dk r => by
    subst e
    cases r with
    | tup h r => exact ⟨_, _, rfl, same_t g.fh h, by rw [r.length]; exact hl, by rw [r.length]; exact hl, k.nx _ _ F' H' g.ff ((R.grow g dk).sets r) qd⟩⟩⟩
/-- a, b = x, y with plain local names -/
@[simp] def gPar (is : List Nat) (fs : GA) (E : Ed) (σ : List SV) : Prop := fs σ fun ds => ds.length = is.length ∧ E.nx (setAll is ds σ)
theorem sd_par2 {i j : Nat} {x y : Str} {px py pt : Pos} {kt k2 pt2} (hc : X.calm = true) (hN : X.N.Nodup) (hi : X.N[i]? = some x) (hj : X.N[j]? = some y) (hij : i ≠ j)
    (hx : X.env.scope.names.lookup x = some .local) (hy : X.env.scope.names.lookup y = some .local) (ha : AD B X [a, b] fs)
    (hw : swappedStores [.Tuple [.Name x px, .Name y py] kt pt] (.Tuple [a, b] k2 pt2) X.env = pure (some [x, y]))
    (hs : swapsWithSole [.Tuple [.Name x px, .Name y py] kt pt] (.Tuple [a, b] k2 pt2) pos.line X.env = pure false := by rfl) :
    SD B X (.Assign [.Tuple [.Name x px, .Name y py] kt pt] (.Tuple [a, b] k2 pt2) pos) (gPar [i, j] fs) :=
  ⟨ps_imp (ps_par hc hN hi hj hij hx hy ha.run hw hs) fun Dn s H ⟨σ, F, E, R, q, k⟩ => ⟨σ, F, _, R, q, fun ds ⟨hl, qd⟩ F' H' vs g dk r => by
    have R2 := (R.grow g dk).sets (is := [i, j]) r
    cases r with
    | nil => simp at hl
    | cons r1 r =>
      cases r with
      | nil => simp at hl
      | cons r2 r =>
        cases r with
        | cons _ _ => simp at hl
        | nil => exact ⟨_, _, rfl, k.nx _ _ F' H' g.ff R2 qd⟩⟩⟩
theorem sd_par3 {i j l : Nat} {x y z : Str} {px py pz pt : Pos} {kt k2 pt2} (hc : X.calm = true) (hN : X.N.Nodup) (hi : X.N[i]? = some x) (hj : X.N[j]? = some y) (hl : X.N[l]? = some z) (hij : i ≠ j) (hil : i ≠ l) (hjl : j ≠ l)
    (hx : X.env.scope.names.lookup x = some .local) (hy : X.env.scope.names.lookup y = some .local) (hz : X.env.scope.names.lookup z = some .local) (ha : AD B X [a, b, c] fs)
    (hw : swappedStores [.Tuple [.Name x px, .Name y py, .Name z pz] kt pt] (.Tuple [a, b, c] k2 pt2) X.env = pure (some [x, y, z]))
    (hs : swapsWithSole [.Tuple [.Name x px, .Name y py, .Name z pz] kt pt] (.Tuple [a, b, c] k2 pt2) pos.line X.env = pure false := by rfl) :
    SD B X (.Assign [.Tuple [.Name x px, .Name y py, .Name z pz] kt pt] (.Tuple [a, b, c] k2 pt2) pos) (gPar [i, j, l] fs) :=
  ⟨ps_imp (ps_par3 hc hN hi hj hl hij hil hjl hx hy hz ha.run hw hs) fun Dn s H ⟨σ, F, E, R, q, k⟩ => ⟨σ, F, _, R, q, fun ds ⟨hl, qd⟩ F' H' vs g dk r => by
    have R2 := (R.grow g dk).sets (is := [i, j, l]) r
    cases r with
    | nil => simp at hl
    | cons r1 r =>
      cases r with
      | nil => simp at hl
      | cons r2 r =>
        cases r with
        | nil => simp at hl
        | cons r3 r =>
          cases r with
          | cons _ _ => simp at hl
          | nil => exact ⟨_, _, _, rfl, k.nx _ _ F' H' g.ff R2 qd⟩⟩⟩

/-! ### x op= e; xs[i] = e; xs.append(e) -/
/-- xs[i] = e, xs of one's own -/
def gSetI (k : Nat) (fe fi : GE) : GS := fun E σ => ∃ xs, σ[k]? = some (.ol xs) ∧ fe σ fun x => fi σ fun d => ∃ i j, d = .int i ∧ ixN xs.length i = some j ∧ E.nx (σ.set k (.ol (xs.set j x)))
theorem sd_setI {k : Nat} {x : Str} {i : Expr} {px pt : Pos} {fe fi : GE} (hv : PE X (.Name x px) (tVar k)) (he : ED B X e fe) (hi : BD B X i fi) (hs : swapsWithSole [.Subscript (.Name x px) i pt] e pos.line X.env = pure false := by rfl) (hw : swappedStores [.Subscript (.Name x px) i pt] e X.env = pure none := by rfl)
    (h1 : (assignEach [.Subscript (.Name x px) i pt] X.env).map (·.2) = [assign (.Subscript (.Name x px) i pt) X.env] := by rfl)
    (ha : ∀ v, assign (.Subscript (.Name x px) i pt) X.env v = (do
      let ov ← holding [v] (eval (.Name x px) X.env)
      let iv ← holding [v, ov] (eval i X.env)
      standAt pt
      holding [v, ov, iv] (setItem ov iv v)
      release [v, ov, iv] []) := by intro _; rfl) : SD B X (.Assign [.Subscript (.Name x px) i pt] e pos) (gSetI k fe fi) :=
  ⟨ps_imp (ps_asg he.run (pg_sub hv hi.run set_list ha) hs hw h1) fun Dn s H ⟨σ, F, E, R, ⟨xs, eo, q⟩, kk⟩ => by
    obtain ⟨a, _, s1, _⟩ := R.ownL eo
    exact ⟨σ, F, _, R, q, fun d qd F1 H1 v g1 d1 r1 => ⟨.ref a, s1, σ, F1, _, R.grow g1 d1, qd, fun d2 ⟨i, j, e2, hj, qn⟩ F2 H2 u g2 dk2 r2 => by
      subst e2
      have R2 := R.grow (g1.trans g2) dk2
      obtain ⟨a', vs, s2, h2, h3, h4, h5, h6⟩ := R2.ownL eo
      rw [s1] at s2
      cases s2
      refine ⟨a, vs, i, j, rfl, r2.int, h2, by rw [h3.length]; exact hj, ?_⟩
      exact kk.nx _ _ F2 _ (g1.ff.trans g2.ff) (R2.write eo (.inl ⟨_, rfl⟩) s1 (x := .ol (xs.set j d)) ⟨rfl, _, upd_same, h3.set (r1.mono g2.ff) j⟩) qn⟩⟩⟩
/-- xs.append(e) -/
def gApp (k : Nat) (fe : GE) : GS := fun E σ => ∃ xs, σ[k]? = some (.ol xs) ∧ fe σ fun x => xs.length < sizeLine ∧ E.nx (σ.set k (.ol (xs ++ [x])))
theorem sd_app {k : Nat} {x : Str} {px apos cpos : Pos} {fe : GE} (h : PE X (.Call (.Attribute (.Name x px) "append" apos) [e] [] cpos) (tBM X.K "list" rAppend (tVar k) (tCons (LE B X.kn fe) tNil))) (hs : swapsWith (.Call (.Attribute (.Name x px) "append" apos) [e] [] cpos) none pos.line X.env = pure false := by rfl) :
    SD B X (.Expr (.Call (.Attribute (.Name x px) "append" apos) [e] [] cpos) pos) (gApp k fe) :=
  ⟨ps_imp (ps_expr h hs) fun Dn s H ⟨σ, F, E, R, ⟨xs, eo, q⟩, kk⟩ => by
    obtain ⟨a, _, s1, h1, _⟩ := R.ownL eo
    refine ⟨.ref a, s1, .inl ⟨rfl, _, .inl (.inl h1)⟩, σ, F, _, R, q, fun d ⟨hz, qd⟩ F1 H1 v g1 d1 r1 => ?_⟩
    have R1 := R.grow g1 d1
    obtain ⟨a', vs, s2, h2, h3, h4, h5, h6⟩ := R1.ownL eo
    rw [s1] at s2
    cases s2
    exact ⟨a, vs, v, rfl, rfl, h2, by rw [h3.length]; exact hz, kk.nx _ _ F1 _ g1.ff (R1.write eo (.inl ⟨_, rfl⟩) s1 (x := .ol (xs ++ [d])) ⟨rfl, _, upd_same, h3.append (.cons r1 .nil)⟩) qd⟩⟩

/-! ### while -/
/-- an invariant with a measure -/
def gWhile (ft : GT) (g : GS) : GS := fun E σ => ∃ I : Nat → List SV → Prop, (∃ m, I m σ) ∧ ∀ m σ', I m σ' → ft σ' fun b => if b = true then g { E with nx := fun σ2 => ∃ m', m' < m ∧ I m' σ2, ct := fun σ2 => ∃ m', m' < m ∧ I m' σ2, bk := E.nx } σ' else E.nx σ'
theorem sd_while (hp : PassesOwn (model X.prog X.w) X.A X.env X.xe) (hc : TD B X c ft) (hb : SDs B X sts g) : SD B X (.While c sts [] pos) (gWhile ft g) :=
  ⟨ps_imp (ps_while hp hc.run hb.run) fun Dn s H ⟨σ, F, E, R, ⟨I, ⟨m0, h0⟩, q⟩, kk⟩ => by
    refine ⟨fun m s' H' => ∃ σ' F', Same F F' ∧ Rel B X.kn σ' s' F' H' ∧ I m σ', ⟨m0, σ, F, Same.refl F, R, h0⟩, ?_⟩
    rintro m s' H' ⟨σ', F', e', R', i'⟩
    refine ⟨σ', F', _, R', q m σ' i', fun b qb F2 H2 g2 dk2 => ?_⟩
    have R2 := R'.grow g2 dk2
    cases b with
    | true =>
      refine ⟨fun s3 H3 => ∃ σ3 F3, Same F F3 ∧ Rel B X.kn σ3 s3 F3 H3 ∧ ∃ m', m' < m ∧ I m' σ3, ?_, σ', F2, _, R2, qb, ?_⟩
      · rintro s3 H3 ⟨σ3, F3, e3, R3, m', hm, i3⟩
        exact ⟨m', hm, σ3, F3, e3, R3, i3⟩
      · have eF := e'.trans g2.ff
        exact ⟨fun σ3 s3 F3 H3 a r q3 => ⟨σ3, F3, eF.trans a, r, q3⟩, kk.rt, fun σ3 s3 F3 H3 a r q3 => kk.nx σ3 s3 F3 H3 (eF.trans a) r q3, fun σ3 s3 F3 H3 a r q3 => ⟨σ3, F3, eF.trans a, r, q3⟩⟩
    | false => exact kk.nx σ' s' F2 H2 (e'.trans g2.ff) R2 qb⟩

/-! ### for -/
/-- J gives the items ds -/
structure ItOk (B : Bs) (K : Kn) (J : It) (ds : List D) (F : Hp) : Prop where
  go : ∀ (F' H' : Hp) i d, Same F F' → Same F' H' → DeckIn B.W F' H' → ds[i]? = some d → J.go i H' ∧ ∀ x H'', J.yld i H' x H'' → ∃ F'', Grow B.W F' H' F'' H'' ∧ DeckIn B.W F'' H'' ∧ Rep K F'' x d
  stop : ∀ (F' H' : Hp) i, Same F F' → Same F' H' → ds.length ≤ i → J.stop i H'
def LI (B : Bs) (K : Kn) (f : GA) : TI := fun s H R => ∃ σ F Qd, Rel B K σ s F H ∧ f σ Qd ∧ ∀ ds, Qd ds → ∀ F' H' J, Grow B.W F H F' H' → DeckIn B.W F' H' → ItOk B K J ds F' → R J H'
structure PID (B : Bs) (X : Cx) (tg iter : Expr) (f : GA) : Prop where
  run : PI X tg iter (LI B X.kn f)
theorem pi_imp {tg : Expr} {t t' : TI} (h : PI X tg e t) (w : ∀ s H R, t' s H R → t s H R) : PI X tg e t' := ⟨fun pins s σ H R I q => h.run pins s σ H R I (w _ _ _ q)⟩
theorem itOk_list {K : Kn} {a : Addr} {vs : List V} {ds : List D} {F : Hp} (h : F a = some (.lst vs)) (r : Reps K F vs ds) : ItOk B K (Itl K.K a) ds F := by
  refine ⟨fun F' H' i d e1 e2 dk hd => ?_, fun F' H' i e1 e2 hi => ⟨vs, SqL.of (e2 _ _ (e1 _ _ h)), by rw [r.length]; exact hi⟩⟩
  have ha : H' a = some (.lst vs) := e2 _ _ (e1 _ _ h)
  obtain ⟨v, hv, rv⟩ := r.get hd
  refine ⟨⟨vs, v, SqL.of ha, hv⟩, fun x H'' ⟨e, f⟩ => ?_⟩
  subst e
  have := f vs (SqL.of ha)
  rw [hv] at this
  cases this
  exact ⟨F', Grow.refl e2, dk, rv.mono e1⟩
theorem itOk_tup {K : Kn} {a : Addr} {vs : List V} {ds : List D} {F : Hp} (h : SqT K.K F a vs) (r : Reps K F vs ds) : ItOk B K (Itt K.K a) ds F := by
  refine ⟨fun F' H' i d e1 e2 dk hd => ?_, fun F' H' i e1 e2 hi => ⟨vs, same_t e2 (same_t e1 h), by rw [r.length]; exact hi⟩⟩
  have ha : SqT K.K H' a vs := same_t e2 (same_t e1 h)
  obtain ⟨v, hv, rv⟩ := r.get hd
  refine ⟨⟨vs, v, ha, hv⟩, fun x H'' ⟨e, f⟩ => ?_⟩
  subst e
  have := f vs ha
  rw [hv] at this
  cases this
  exact ⟨F', Grow.refl e2, dk, rv.mono e1⟩
def intsFrom (lo : Int) (n : Nat) : List D := (List.range n).map fun (i : Nat) => D.int (lo + (i : Int))
theorem itOk_range {K : Kn} {lo : Int} {n : Nat} {F : Hp} : ItOk B K (Itr lo n) (intsFrom lo n) F := by
  refine ⟨fun F' H' i d e1 e2 dk hd => ?_, fun F' H' i e1 e2 hi => by (show n ≤ i); simpa [intsFrom] using hi⟩
  unfold intsFrom at hd
  rw [List.getElem?_map] at hd
  have hi : i < n := by
    have := (List.getElem?_eq_some_iff.mp (Option.map_eq_some_iff.mp hd).choose_spec.1).1
    simpa using this
  refine ⟨hi, fun x H'' ⟨e, f⟩ => ?_⟩
  subst e f
  rw [List.getElem?_range hi] at hd
  cases hd
  exact ⟨F', Grow.refl e2, dk, .int _⟩
/-- for x in e, e data: a list, a tuple -/
@[simp] def gIter (fa : GE) (σ : List SV) (Q : List D → Prop) : Prop := fa σ fun d => match d with | .tup xs => Q xs | .lst xs => Q xs | _ => False
theorem pid_data {tg : Expr} (ha : ED B X e fa) : PID B X tg e (gIter fa) := ⟨⟨fun pins s σv H R I ⟨σ, F, Qd, Rl, q, k⟩ => by
  refine thn (ha.run.run pins s σv H (fun v H1 => ∃ d F1, Grow B.W F H F1 H1 ∧ DeckIn B.W F1 H1 ∧ Rep X.kn F1 v d ∧ match d with | .tup xs => Qd xs | .lst xs => Qd xs | _ => False) I ⟨σ, F, _, Rl, q, fun d qd F1 H1 v g1 d1 r1 => ⟨d, F1, g1, d1, r1, qd⟩⟩) fun v s1 ⟨x, H1, I1, r1, d, F1, g1, d1, rd, qd⟩ => ?_
  cases rd with
  | tup h r =>
    cases r1
    obtain ⟨its, rv, p, hz⟩ := I1.tuple (same_t g1.fh h)
    refine wpAny_pyIter_tuple (show s1.heap.IsTuple _ its.toArray from p) ?_
    refine ⟨s1.heap.objs.size, [s1.heap.objs.size], _, _, H1, rfl, I1.kept (t' := s1.toks) fun b o e => Heap.get?_push_of_some _ e, turn_tuple _ _, ⟨_, Heap.get?_push_size _ rfl, rfl, rfl⟩, fun b hb => ?_, k _ qd F1 H1 _ g1 d1 (itOk_tup h r)⟩
    have e : b = s1.heap.objs.size := by simpa using hb
    subst e
    exact I1.fpOk (Nat.le_refl _) (I1.hok.fresh (Nat.le_refl _))
  | lst h r =>
    cases r1
    obtain ⟨its, rv, p, hz⟩ := I1.list (SqL.of (g1.fh _ _ h))
    refine wpAny_pyIter_list p.isList ?_
    refine ⟨s1.heap.objs.size, [s1.heap.objs.size], _, _, H1, rfl, I1.kept (t' := s1.toks) fun b o e => Heap.get?_push_of_some _ e, turn_list _ _, ⟨_, Heap.get?_push_size _ rfl, rfl, rfl⟩, fun b hb => ?_, k _ qd F1 H1 _ g1 d1 (itOk_list h r)⟩
    have e : b = s1.heap.objs.size := by simpa using hb
    subst e
    exact I1.fpOk (Nat.le_refl _) (I1.hok.fresh (Nat.le_refl _))
  | _ => exact False.elim qd⟩⟩
/-- range(n), range(a, b) -/
def rng1D (ds : List D) (Q : List D → Prop) : Prop := ∃ j, ds = [.int j] ∧ -(2 ^ 62) ≤ j ∧ j < 2 ^ 62 ∧ Q (intsFrom 0 j.toNat)
@[simp] theorem rng1D_i (j : Int) (Q : List D → Prop) : rng1D [.int j] Q ↔ -(2 ^ 62) ≤ j ∧ j < 2 ^ 62 ∧ Q (intsFrom 0 j.toNat) := ⟨fun ⟨_, e, q⟩ => by cases e; exact q, fun q => ⟨j, rfl, q⟩⟩
def rng2D (ds : List D) (Q : List D → Prop) : Prop := ∃ i j, ds = [.int i, .int j] ∧ (-(2 ^ 62) ≤ i ∧ i < 2 ^ 62 ∧ -(2 ^ 62) ≤ j ∧ j < 2 ^ 62) ∧ Q (intsFrom i (j - i).toNat)
@[simp] theorem rng2D_i (i j : Int) (Q : List D → Prop) : rng2D [.int i, .int j] Q ↔ (-(2 ^ 62) ≤ i ∧ i < 2 ^ 62 ∧ -(2 ^ 62) ≤ j ∧ j < 2 ^ 62) ∧ Q (intsFrom i (j - i).toNat) := ⟨fun ⟨_, _, e, q⟩ => by cases e; exact q, fun q => ⟨i, j, rfl, q⟩⟩
@[simp] def gRng1 (fs : GA) (σ : List SV) (Q : List D → Prop) : Prop := fs σ fun ds => rng1D ds Q
@[simp] def gRng2 (fs : GA) (σ : List SV) (Q : List D → Prop) : Prop := fs σ fun ds => rng2D ds Q
theorem pid_rng1 {tg : Expr} {p : Pos} {fs : GA} (hg : Gl X "range") (hm : X.mg "range" = none) (ha : AD B X [a] fs) (hs : starEach [a] X.env = [(false, eval a X.env)] := by rfl) : PID B X tg (.Call (.Name "range" p) [a] [] pos) (gRng1 fs) :=
  ⟨pi_imp (pi_range1 hg hm ha.run hs) fun s H R ⟨σ, F, Qd, Rl, q, k⟩ => ⟨σ, F, _, Rl, q, fun ds ⟨j, e, h1, h2, qd⟩ F1 H1 vs g1 d1 r1 => by
    subst e
    cases r1 with
    | cons r t =>
      cases r
      cases t
      exact ⟨j, rfl, h1, h2, k _ qd F1 H1 _ g1 d1 itOk_range⟩⟩⟩
theorem pid_rng2 {tg : Expr} {p : Pos} {fs : GA} (hg : Gl X "range") (hm : X.mg "range" = none) (ha : AD B X [a, b] fs) (hs : starEach [a, b] X.env = [(false, eval a X.env), (false, eval b X.env)] := by rfl) (hs2 : starEach [b] X.env = [(false, eval b X.env)] := by rfl) : PID B X tg (.Call (.Name "range" p) [a, b] [] pos) (gRng2 fs) :=
  ⟨pi_imp (pi_range2 hg hm ha.run hs hs2) fun s H R ⟨σ, F, Qd, Rl, q, k⟩ => ⟨σ, F, _, Rl, q, fun ds ⟨i, j, e, h1, qd⟩ F1 H1 vs g1 d1 r1 => by
    subst e
    cases r1 with
    | cons r t =>
      cases r
      cases t with
      | cons r t =>
        cases r
        cases t
        exact ⟨i, j, rfl, h1, k _ qd F1 H1 _ g1 d1 itOk_range⟩⟩⟩
/-- the target of a for: a name, a tuple of names -/
abbrev GG := D → List SV → (List SV → Prop) → Prop
structure GD (B : Bs) (X : Cx) (tg : Expr) (gt : GG) : Prop where
  run : ∃ t, PG X tg t ∧ ∀ d v σ s F H (Qd : List SV → Prop) (Q : L2.St → Hp → Prop), Rel B X.kn σ s F H → Rep X.kn F v d → gt d σ Qd → (∀ σ' s', Rel B X.kn σ' s' F H → Qd σ' → Q s' H) → t v s H Q
@[simp] def ggName (i : Nat) (d : D) (σ : List SV) (Q : List SV → Prop) : Prop := Q (σ.set i (.d d))
theorem gd_name {i : Nat} {x : Str} (h : PG X (.Name x pos) (gName i)) : GD B X (.Name x pos) (ggName i) := ⟨_, h, fun d v σ s F H Qd Q R r q k => k _ _ (R.set r) q⟩
def forG (gt : GG) (g : GS) : List D → Ed → List SV → Prop
  | [], E, σ => E.nx σ
  | d :: ds, E, σ => gt d σ fun σ' => g { E with nx := forG gt g ds E, ct := forG gt g ds E, bk := E.nx } σ'
/-- a loop that does not open by itself -/
@[irreducible] def forL (gt : GG) (g : GS) (ds : List D) (E : Ed) (σ : List SV) : Prop := forG gt g ds E σ
@[simp] theorem forL_eq (gt : GG) (g : GS) (ds : List D) (E : Ed) (σ : List SV) : forL gt g ds E σ = forG gt g ds E σ := by unfold forL; rfl
theorem forL_in {gt : GG} {g : GS} {ds : List D} {E : Ed} {σ : List SV} (h : forG gt g ds E σ) : forL gt g ds E σ := by rw [forL_eq]; exact h
@[simp] def gFor (fi : GA) (gt : GG) (g : GS) (E : Ed) (σ : List SV) : Prop := fi σ fun ds => forL gt g ds E σ
theorem sd_for {tg iter : Expr} {fi : GA} {gt : GG} (hp : PassesOwn (model X.prog X.w) X.A X.env X.xe) (hc : X.calm = true) (hi : PID B X tg iter fi) (hg : GD B X tg gt) (hb : SDs B X sts g) (hs : ∀ x, foldedSetIterable iter X.env x = pure x := by intro _; rfl) : SD B X (.For tg iter sts [] pos) (gFor fi gt g) := by
  obtain ⟨t, ht, hgt⟩ := hg.run
  refine ⟨ps_imp (ps_for hp hc hi.run ht hb.run hs) fun Dn s H ⟨σ, F, E, R, q, kk⟩ => ⟨σ, F, _, R, q, fun ds qd F1 H1 J g1 d1 ok => ?_⟩⟩
  have R1 := R.grow g1 d1
  rw [forL_eq] at qd
  refine ⟨fun i m s' H' => m = ds.length - i ∧ ∃ σ' F', Same F1 F' ∧ Rel B X.kn σ' s' F' H' ∧ forG gt g (ds.drop i) E σ', ⟨ds.length, rfl, σ, F1, Same.refl F1, R1, by simpa using qd⟩, ?_⟩
  rintro i m s' H' ⟨rfl, σ', F', e', R', q'⟩
  by_cases hlt : i < ds.length
  · obtain ⟨hgo, hy⟩ := ok.go F' H' i ds[i] e' R'.ex R'.deck (by simp [hlt])
    rw [List.drop_eq_getElem_cons hlt] at q'
    refine .inr ⟨hgo, fun s3 H3 => ∃ σ3 F3, Same F1 F3 ∧ Rel B X.kn σ3 s3 F3 H3 ∧ forG gt g (ds.drop (i + 1)) E σ3, fun s3 H3 z => ⟨ds.length - (i + 1), by omega, rfl, z⟩, fun x H2 hx => ?_⟩
    obtain ⟨F2, g2, d2, r2⟩ := hy x H2 hx
    have R2 := R'.grow g2 d2
    refine hgt ds[i] x σ' s' F2 H2 _ _ R2 r2 q' fun σ3 s3 R3 q3 => ⟨σ3, F2, _, R3, q3, ?_⟩
    have eF := e'.trans g2.ff
    exact ⟨fun σ4 s4 F4 H4 a r q4 => ⟨σ4, F4, eF.trans a, r, q4⟩, kk.rt, fun σ4 s4 F4 H4 a r q4 => kk.nx σ4 s4 F4 H4 (g1.ff.trans (eF.trans a)) r q4, fun σ4 s4 F4 H4 a r q4 => ⟨σ4, F4, eF.trans a, r, q4⟩⟩
  · rw [List.drop_eq_nil_of_le (by omega)] at q'
    exact .inl ⟨ok.stop F' H' i e' R'.ex (by omega), kk.nx σ' s' F' H' (g1.ff.trans e') R' q'⟩
end
end ND

/-! ND6: comprehensions, built-in functions -/
namespace ND
open PySem PySem.Spec L2
open PyProof.Rows (envOfC)

/-! ### lists by comprehension -/
@[simp] def wipeD (σ : List SV) : List Nat → List SV
  | [] => σ
  | v :: vs => (wipeD σ vs).set v .no
theorem Rel.wipe {B : Bs} {K : Kn} {σ : List SV} {s : L2.St} {F H : Hp} (R : Rel B K σ s F H) : ∀ vs : List Nat, Rel B K (wipeD σ vs) (L2.wipe s vs) F H
  | [] => R
  | v :: vs => (Rel.wipe R vs).drop
theorem set_set_ne {α : Type} {l : List α} {i j : Nat} {a b : α} (h : i ≠ j) : (l.set i a).set j b = (l.set j b).set i a := List.set_comm a b h
theorem wipe_set {s : L2.St} {i : Nat} {v : Option V} : ∀ {vs : List Nat}, i ∈ vs → L2.wipe (s.set i v) vs = L2.wipe s vs
  | w :: vs, h => by
    unfold L2.wipe
    by_cases e : i ∈ vs
    · rw [wipe_set e]
    · have e2 : i = w := by
        rcases List.mem_cons.mp h with h | h
        · exact h
        · exact absurd h e
      subst e2
      have key : ∀ (us : List Nat), i ∉ us → L2.wipe (s.set i v) us = (L2.wipe s us).set i v := by
        intro us
        induction us with
        | nil => intro _; rfl
        | cons u us ih =>
          intro hu
          unfold L2.wipe
          rw [ih (fun z => hu (List.mem_cons_of_mem _ z)), set_set_ne (fun z => hu (by rw [z]; exact List.mem_cons_self))]
      rw [key vs e, List.set_set]
theorem wipe_idem (s : L2.St) : ∀ vs : List Nat, L2.wipe (L2.wipe s vs) vs = L2.wipe s vs := by
  have key : ∀ (ws vs : List Nat), (∀ i ∈ ws, i ∈ vs) → L2.wipe (L2.wipe s ws) vs = L2.wipe s vs := by
    intro ws
    induction ws with
    | nil => intro vs _; rfl
    | cons w ws ih =>
      intro vs h
      show L2.wipe ((L2.wipe s ws).set w none) vs = _
      rw [wipe_set (h w List.mem_cons_self)]
      exact ih vs fun i hi => h i (List.mem_cons_of_mem _ hi)
  exact fun vs => key vs vs fun _ h => h
/-- a comprehension's target -/
structure CTg (B : Bs) (K : Kn) (own : List Nat) (t : TG) (gt : GG) : Prop where
  run : ∀ d v σ s F H (Qd : List SV → Prop) (Q : L2.St → Hp → Prop), Rel B K σ s F H → Rep K F v d → gt d σ Qd → (∀ σ' s', Rel B K σ' s' F H → L2.wipe s' own = L2.wipe s own → Qd σ' → Q s' H) → t v s H Q
section
variable {B : Bs} {X : Cx} {K : Kn} {own : List Nat}
theorem ct_name {i : Nat} (h : i ∈ own) : CTg B K own (gName i) (ggName i) := ⟨fun d v σ s F H Qd Q R r q k => k _ _ (R.set r) (wipe_set h) q⟩
structure TDs (B : Bs) (X : Cx) (ifs : List Expr) (f : GT) : Prop where
  run : PTs X ifs (LT B X.kn f)
@[simp] def gYes (_ : List SV) (Q : Bool → Prop) : Prop := Q true
theorem tds_nil : TDs B X [] gYes := ⟨⟨fun pins s σ H Q I ⟨σ', F, Qd, R, q, k⟩ => pts_nil.run pins s σ H Q I (k _ q F H (Grow.refl R.ex) R.deck)⟩⟩
theorem tds_one {c : Expr} {ft : GT} (h : TD B X c ft) : TDs B X [c] ft := ⟨pts_one h.run⟩
def lcG (gt : GG) (ft : GT) (fe : GE) (own : List Nat) (σ : List SV) (Q : List D → Prop) : List D → List D → Prop
  | [], acc => Q acc
  | d :: ds, acc => gt d (wipeD σ own) fun σ2 => ft σ2 fun b => if b = true then fe σ2 fun y => acc.length < sizeLine ∧ lcG gt ft fe own σ Q ds (acc ++ [y]) else lcG gt ft fe own σ Q ds acc
@[simp] def gLc (fi : GA) (gt : GG) (ft : GT) (fe : GE) (own : List Nat) (σ : List SV) (Q : List D → Prop) : Prop := fi σ fun ds => lcG gt ft fe own σ Q ds []
theorem Grow.write {W : WT} {F H F' H' : Hp} {p : Addr} {o : HO} (g : Grow W F H F' H') (hp : H p = none) (fp : F' p = none) : Grow W F H F' (upd H' p o) :=
  ⟨g.ff, fun a u e => by
    rw [upd_ne fun z => by rw [z, fp] at e; cases e]
    exact g.fh a u e, fun a u e w nt => by
    rw [upd_ne fun z => by rw [z, hp] at e; cases e]
    exact g.hh a u e w nt, g.new, fun a e => upd_keep (g.keep a e)⟩
theorem DeckIn.write {W : WT} {F H F' H' : Hp} {p : Addr} {o : HO} (d0 : DeckIn W F H) (d : DeckIn W F' H') (hp : H p = none) (nx : ∀ φ, H' p ≠ some (.ext φ)) (nt : NT o := by intro _ z; cases z) : DeckIn W F' (upd H' p o) :=
  d.keep (fun _ _ => rfl) (fun a w => upd_ne fun z => (d0.w w).2 (by rw [z]; exact hp)) (fun a φ e => by rw [upd_ne (fun z => nx φ (by rw [← z]; exact e))]; exact e) d.nf (ot_upd nt)
theorem lc_run {fi : GA} {gt : GG} {ft : GT} {fe : GE} {t : TG} {own : List Nat} {s : L2.St} {H : Hp} {Q : VK} (ct : CTg B K own t gt) (h : LF B K (gLc fi gt ft fe own) s H Q) : tLc (LI B K fi) t (LT B K ft) (LE B K fe) own s H Q := by
  obtain ⟨σ, F, Qd, R, q, k⟩ := h
  refine ⟨σ, F, _, R, q, fun ds qds F1 H1 J g1 d1 okJ L hL => ?_⟩
  refine ⟨fun i m H' => m = ds.length - i ∧ ∃ F' acc vs, Grow B.W F1 H1 F' H' ∧ DeckIn B.W F' H' ∧ F' L = none ∧ H' L = some (.lst vs) ∧ Reps K F' vs acc ∧ lcG gt ft fe own σ Qd (ds.drop i) acc, ⟨ds.length, rfl, F1, [], [], Grow.laid g1.fh hL, d1.laid hL, g1.fh.free hL, upd_same, .nil, by simpa using qds⟩, ?_⟩
  rintro i m H' ⟨rfl, F', acc, vs, g', dk', fL, hv, rv, q'⟩
  by_cases hlt : i < ds.length
  · obtain ⟨hgo, hy⟩ := okJ.go F' H' i ds[i] g'.ff g'.fh dk' (by simp [hlt])
    rw [List.drop_eq_getElem_cons hlt] at q'
    refine .inr ⟨hgo, fun H3 => ∃ F3 acc3 vs3, Grow B.W F1 H1 F3 H3 ∧ DeckIn B.W F3 H3 ∧ F3 L = none ∧ H3 L = some (.lst vs3) ∧ Reps K F3 vs3 acc3 ∧ lcG gt ft fe own σ Qd (ds.drop (i + 1)) acc3, fun H3 z => ⟨ds.length - (i + 1), by omega, rfl, z⟩, fun x H2 hx => ?_⟩
    obtain ⟨F2, g2, d2, r2⟩ := hy x H2 hx
    have R2 := ((R.grow g1 d1).grow (g'.trans g2) d2).wipe own
    have nW : ¬ InW B.W L := fun w => (d1.w w).2 hL
    have key : ∀ {F3 H3 : Hp}, Grow B.W F' H' F3 H3 → F3 L = none ∧ H3 L = some (.lst vs) := fun {F3 H3} g3 => ⟨g3.new L fL (by rw [hv]; exact Option.some_ne_none _), g3.hh L _ hv nW (by intro _ z; cases z)⟩
    refine ct.run ds[i] x _ _ F2 H2 _ _ R2 r2 q' fun σ3 s3 R3 hw q3 => ⟨by rw [hw]; exact wipe_idem _ _, σ3, F2, _, R3, q3, fun b qb F3 H3 g3 d3 => ?_⟩
    cases b with
    | false =>
      have g23 := g2.trans g3
      exact ⟨F3, acc, vs, g'.trans g23, d3, (key g23).1, (key g23).2, rv.mono g23.ff, by simpa using qb⟩
    | true =>
      refine ⟨σ3, F3, _, R3.grow g3 d3, qb, fun y ⟨hz, qy⟩ F4 H4 v g4 d4 r4 => ?_⟩
      have g24 := (g2.trans g3).trans g4
      have rv4 := rv.mono g24.ff
      exact ⟨vs, (key g24).2, by rw [rv.length]; exact hz, F4, acc ++ [y], vs ++ [v], (g'.trans g24).write hL (key g24).1, d1.write d4 hL (fun φ z => by rw [(key g24).2] at z; cases z), (key g24).1, upd_same, rv4.append (.cons r4 .nil), qy⟩
  · rw [List.drop_eq_nil_of_le (by omega)] at q'
    exact .inl ⟨okJ.stop F' H' i g'.ff g'.fh (by omega), k acc q' F' H' L vs (g1.trans g') dk' (g1.back hL) fL hv rv⟩
theorem fd_lc {elt tg iter : Expr} {ifs : List Expr} {scope : Scope} {own : List (Str × Nat)} {pos : Pos} {fi : GA} {gt : GG} {ft : GT} {fe : GE} {t : TG} (hc : X.calm = true) (hN : X.N.Nodup) (hi : PID B X tg iter fi) (ok : BlkOk X.N X.env.scope scope own)
    (ct : CTg B X.kn (own.map (·.2)) t gt) (hg : ∀ (s : Shared) (H : Hp) (C : Addr) (cl : List (Str × Addr)) (fp : List Addr), PG (X.blk s H scope (compEnvC scope cl C X.env) fp) tg t)
    (ht : ∀ (s : Shared) (H : Hp) (C : Addr) (cl : List (Str × Addr)) (fp : List Addr), TDs B (X.blk s H scope (compEnvC scope cl C X.env) fp) ifs ft)
    (he : ∀ (s : Shared) (H : Hp) (C : Addr) (cl : List (Str × Addr)) (fp : List Addr), ED B (X.blk s H scope (compEnvC scope cl C X.env) fp) elt fe) (hs : ∀ x, foldedSetIterable iter X.env x = pure x := by intro _; rfl) :
    FD B X (.ListComp elt [⟨tg, iter, ifs, 0⟩] scope pos) (gLc fi gt ft fe (own.map (·.2))) :=
  ⟨pe_imp (pe_lc (te := LE B X.kn fe) (tt := LT B X.kn ft) hc hN hi.run ok hg (fun s H C cl fp => (ht s H C cl fp).run) (fun s H C cl fp => (he s H C cl fp).run) hs) fun s H Q h => lc_run ct h⟩
end
end ND

/-! ND7: built-in functions by data -/
namespace ND
open PySem PySem.Spec L2
open PyProof.Rows (envOfC)

/-- a built-in function of data -/
def LCa (B : Bs) (K : Kn) (g : List D → (D → Prop) → Prop) : List V → Hp → VK → Prop := fun vs H Q => ∃ F ds Qd, Same F H ∧ DeckIn B.W F H ∧ RepBs B.W K F H vs ds ∧ g ds Qd ∧ Fin B K F H Qd Q
@[simp] def gBlt (g : List D → (D → Prop) → Prop) (fs : GA) (σ : List SV) (Q : D → Prop) : Prop := fs σ fun ds => g ds Q
section
variable {B : Bs} {X : Cx} {e : Expr} {es : List Expr} {x : Str} {p pos : Pos} {fs : GA} {id T : String} {g : List D → (D → Prop) → Prop}
theorem callR_by {f : Value} {r' : List V → Hp → VK → Prop} (w : ∀ vs H Q, r' vs H Q → ∃ r, CallR X f r ∧ r vs H Q) : CallR X f r' := fun pins s σ H xs us Q I rx q => by
  obtain ⟨r, h, q'⟩ := w _ _ _ q
  exact h pins s σ H xs us Q I rx q'
theorem tcb_of {s : L2.St} {H : Hp} {Q : VK} (h : LE B X.kn (gBlt g fs) s H Q) : tCB (LCa B X.kn g) (LAB B X.kn fs) s H Q := by
  obtain ⟨σ, F, Qd, R, q, k⟩ := h
  exact ⟨σ, F, _, R, q, fun ds qd F1 H1 vs g1 d1 r1 => ⟨F1, ds, Qd, g1.fh, d1, r1, qd, k.more g1⟩⟩
theorem ed_callB (hc : CallR X (.builtin id) (LCa B X.kn g)) (hg : Gl X x) (hm : X.mg x = none) (hv : bootBuiltins x = some (.builtin id)) (ha : ABD B X (e :: es) fs) (hn : x ≠ "__name__" := by decide) (hdb : (x == ("__debug__" : Str)) = false := by decide)
    (he : starEach (e :: es) X.env = (false, eval e X.env) :: starEach es X.env := by rfl) (hpl : (backTo pos (starEach es X.env)).any (·.1) = false := by rfl) : ED B X (.Call (.Name x p) (e :: es) [] pos) (gBlt g fs) :=
  ⟨pe_imp (pe_callB hc hg hm hv ha.run hn hdb he hpl) fun s H Q h => tcb_of h⟩
theorem ed_callTy (hc : CallR X (.type T) (LCa B X.kn g)) (hg : Gl X x) (hm : X.mg x = none) (hv : bootBuiltins x = some (.type T)) (ha : ABD B X (e :: es) fs) (hn : x ≠ "__name__" := by decide) (hdb : (x == ("__debug__" : Str)) = false := by decide)
    (he : starEach (e :: es) X.env = (false, eval e X.env) :: starEach es X.env := by rfl) (hpl : (backTo pos (starEach es X.env)).any (·.1) = false := by rfl) : ED B X (.Call (.Name x p) (e :: es) [] pos) (gBlt g fs) :=
  ⟨pe_imp (pe_callTy hc hg hm hv ha.run hn hdb he hpl) fun s H Q h => tcb_of h⟩
/-- a module's name for a built-in function -/
theorem ed_callFun (hc : CallR X (.builtin id) (LCa B X.kn g)) (hg : Gl X x) (hm : X.mg x = some (.builtin id)) (ha : ABD B X (e :: es) fs) (hdb : (x == ("__debug__" : Str)) = false := by decide)
    (he : starEach (e :: es) X.env = (false, eval e X.env) :: starEach es X.env := by rfl) (hpl : (backTo pos (starEach es X.env)).any (·.1) = false := by rfl) : ED B X (.Call (.Name x p) (e :: es) [] pos) (gBlt g fs) :=
  ⟨pe_imp (pe_callBfun hc hg hm ha.run hdb he hpl) fun s H Q h => tcb_of h⟩
/-- a name of a built-in type -/
theorem ed_ty (hg : Gl X x) (hm : X.mg x = none) (hv : bootBuiltins x = some (.type T)) (hn : x ≠ "__name__" := by decide) (hdb : (x == ("__debug__" : Str)) = false := by decide) : ED B X (.Name x pos) (gC (.opq (.ty T))) :=
  ed_c (v := .ty T) (pe_bltn hg hm hv rfl hn hdb) fun _ => .opq _

theorem rb1 {W : WT} {K : Kn} {F H : Hp} {vs : List V} {d : D} (h : RepBs W K F H vs [d]) : ∃ v, vs = [v] ∧ RepB W K F H v d := by
  cases h with
  | cons h t =>
    cases t
    exact ⟨_, rfl, h⟩
theorem rb2 {W : WT} {K : Kn} {F H : Hp} {vs : List V} {d d' : D} (h : RepBs W K F H vs [d, d']) : ∃ v u, vs = [v, u] ∧ RepB W K F H v d ∧ RepB W K F H u d' := by
  cases h with
  | cons h t =>
    obtain ⟨u, rfl, h2⟩ := rb1 t
    exact ⟨_, _, rfl, h, h2⟩
/-! the answers -/
def lenD : List D → (D → Prop) → Prop
  | [.lst xs], Q => Q (.int xs.length)
  | [.tup xs], Q => Q (.int xs.length)
  | [.str x], Q => x.length ≤ sizeLine ∧ Q (.int x.length)
  | [.dic ks], Q => Q (.int ks.length)
  | _, _ => False
theorem repKs_len {K : Kn} {F : Hp} : ∀ {v : List (Key × V)} {d : List (Key × D)}, RepKs K F v d → v.length = d.length
  | _, _, .nil => rfl
  | _, _, .cons _ t => by rw [List.length_cons, List.length_cons, repKs_len t]
theorem c_len : CallR X (.builtin "len") (LCa B X.kn lenD) := callR_by fun vs H Q ⟨F, ds, Qd, e, dk, r, q, k⟩ => by
  unfold lenD at q
  split at q
  · obtain ⟨v, rfl, r1⟩ := rb1 r
    obtain ⟨a, us, rfl, h1, h2⟩ := r1.lst e
    exact ⟨_, call_len_seq, a, us, rfl, .inl (SqL.of h1), by rw [h2.length]; exact k.here e dk q (.int _)⟩
  · obtain ⟨v, rfl, r1⟩ := rb1 r
    obtain ⟨a, us, rfl, _, h1, h2⟩ := r1.tup e
    exact ⟨_, call_len_seq, a, us, rfl, .inr h1, by rw [h2.length]; exact k.here e dk q (.int _)⟩
  · obtain ⟨v, rfl, r1⟩ := rb1 r
    exact ⟨_, call_len_str, _, by rw [r1.str], q.1, k.here e dk q.2 (.int _)⟩
  · obtain ⟨v, rfl, r1⟩ := rb1 r
    obtain ⟨a, us, rfl, h1, h2⟩ := r1.dic e
    exact ⟨_, call_lenD, a, us, rfl, h1, by rw [repKs_len h2]; exact k.here e dk q (.int _)⟩
  · exact q.elim
def intD : List D → (D → Prop) → Prop
  | [.int i], Q => Q (.int i)
  | [.bl b], Q => Q (.int (if b = true then 1 else 0))
  | [.str x], Q => ∃ n, intText? x = some n ∧ x.length ≤ 640 ∧ Q (.int n)
  | _, _ => False
theorem c_int : CallR X (.type "int") (LCa B X.kn intD) := callR_by fun vs H Q ⟨F, ds, Qd, e, dk, r, q, k⟩ => by
  unfold intD at q
  split at q
  · obtain ⟨v, rfl, r1⟩ := rb1 r
    exact ⟨_, call_int1, .inl ⟨_, by rw [r1.int], k.here e dk q (.int _)⟩⟩
  · obtain ⟨v, rfl, r1⟩ := rb1 r
    exact ⟨_, call_int1, .inr ⟨_, by rw [r1.bl], k.here e dk q (.int _)⟩⟩
  · obtain ⟨v, rfl, r1⟩ := rb1 r
    obtain ⟨n, h1, h2, h3⟩ := q
    exact ⟨_, call_int_str, _, n, by rw [r1.str], h1, h2, k.here e dk h3 (.int _)⟩
  · exact q.elim
def absD : List D → (D → Prop) → Prop
  | [.int i], Q => Q (.int (if i < 0 then -i else i))
  | _, _ => False
theorem c_abs : CallR X (.builtin "abs") (LCa B X.kn absD) := callR_by fun vs H Q ⟨F, ds, Qd, e, dk, r, q, k⟩ => by
  unfold absD at q
  split at q
  · obtain ⟨v, rfl, r1⟩ := rb1 r
    exact ⟨_, call_abs, _, by rw [r1.int], k.here e dk q (.int _)⟩
  · exact q.elim
def max2D : List D → (D → Prop) → Prop
  | [.int i, .int j], Q => Q (.int (if j > i then j else i))
  | _, _ => False
theorem c_max2 (hc : X.calm = true) : CallR X (.builtin "max") (LCa B X.kn max2D) := callR_by fun vs H Q ⟨F, ds, Qd, e, dk, r, q, k⟩ => by
  unfold max2D at q
  split at q
  · obtain ⟨v, u, rfl, r1, r2⟩ := rb2 r
    exact ⟨_, call_max2 hc, _, _, by rw [r1.int, r2.int], k.here e dk q (.int _)⟩
  · exact q.elim
def gcdD : List D → (D → Prop) → Prop
  | [.int i, .int j], Q => Q (.int ((Nat.gcd i.natAbs j.natAbs : Nat) : Int))
  | _, _ => False
theorem c_gcd : CallR X (.builtin "math.gcd") (LCa B X.kn gcdD) := callR_by fun vs H Q ⟨F, ds, Qd, e, dk, r, q, k⟩ => by
  unfold gcdD at q
  split at q
  · obtain ⟨v, u, rfl, r1, r2⟩ := rb2 r
    exact ⟨_, cr_gcd, _, _, by rw [r1.int, r2.int], k.here e dk q (.int _)⟩
  · exact q.elim
theorem isqrt_wide : CallR X (.builtin "math.isqrt") (fun vs H Q => ∃ a : Int, vs = [.int a] ∧ 0 ≤ a ∧ a.toNat.log2 < 13000 ∧ Q (.int ((Float64.isqrt a.toNat : Nat) : Int)) H) := by
  intro pins s σ H vs us Q I r h
  obtain ⟨a, rfl, h0, h1, q⟩ := h
  obtain ⟨u, rfl, t, rfl⟩ := vals1 r
  have h2 : a.toNat.log2 / 30 < 434 := Nat.div_lt_of_lt_mul (by omega)
  exact call_function_meets PySem.W.MGF.kind_isqrt PySem.W.MGF.plain_isqrt PySem.W.MGF.entry_isqrt (PySem.W.MGF.args_isqrt _) (PySem.W.mg_run_isqrt a t (by omega) (by omega) (by omega)).meets ⟨.int _, H, I.tok _, ⟨_, rfl⟩, q⟩
def isqrtD : List D → (D → Prop) → Prop
  | [.int i], Q => 0 ≤ i ∧ i.toNat.log2 < 13000 ∧ Q (.int ((Float64.isqrt i.toNat : Nat) : Int))
  | _, _ => False
theorem c_isqrt : CallR X (.builtin "math.isqrt") (LCa B X.kn isqrtD) := callR_by fun vs H Q ⟨F, ds, Qd, e, dk, r, q, k⟩ => by
  unfold isqrtD at q
  split at q
  · obtain ⟨v, rfl, r1⟩ := rb1 r
    exact ⟨_, isqrt_wide, _, by rw [r1.int], q.1, q.2.1, k.here e dk q.2.2 (.int _)⟩
  · exact q.elim

/-! isinstance with a built-in type -/
def tyD : D → Option String
  | .non => some "NoneType" | .bl _ => some "bool" | .int _ => some "int" | .str _ => some "str" | .tup _ => some "tuple" | .lst _ => some "list" | .dic _ => some "dict" | _ => none
def isTb (t T : String) : Bool := t == T || (t == "bool" && T == "int")
def knownT (T : String) : Bool := T == "int" || T == "bool" || T == "str" || T == "tuple" || T == "list" || T == "dict"
def isiB (T : String) (x : D) : Bool := match tyD x with | some t => isTb t T | none => false
theorem kitB_all : ∀ t ∈ ["NoneType", "bool", "int", "str", "tuple", "list", "dict"], ∀ T ∈ ["int", "bool", "str", "tuple", "list", "dict"], kitB t T = some (isTb t T) := by decide +kernel
theorem tyD_mem {x : D} {t : String} (h : tyD x = some t) : t ∈ ["NoneType", "bool", "int", "str", "tuple", "list", "dict"] := by
  cases x <;> simp only [tyD, Option.some.injEq, reduceCtorEq] at h <;> subst h <;> simp
theorem RepB.tyx {W : WT} {K : Kn} {F H : Hp} {v : V} {x : D} {t : String} (h : RepB W K F H v x) (e : Same F H) (ht : tyD x = some t) : TyX K.K H v (.type t) := by
  cases x <;> simp only [tyD, Option.some.injEq, reduceCtorEq] at ht <;> subst ht
  · rw [h.non]; exact .base .non
  · rw [h.bl]; exact .base (.bl _)
  · rw [h.int]; exact .base (.int _)
  · rw [h.str]; exact .base (.str _)
  · obtain ⟨a, us, rfl, _, h1, h2⟩ := h.tup e
    rcases h1 with (h1 | ⟨o, h1⟩) | ⟨o, its, n, h1, h2, _⟩
    · exact .base (.tup h1)
    · exact .fTuple h1
    · exact .kTuple h1 h2
  · obtain ⟨a, us, rfl, h1, h2⟩ := h.lst e
    exact .base (.lst h1)
  · obtain ⟨a, us, rfl, h1, h2⟩ := h.dic e
    exact .base (.dK h1)
/-! repr of plain data -/
/-! text * int -/
end
end ND

/-! ND8: defs by data -/
namespace ND
open PySem PySem.Spec L2
open PyProof.Rows (envOfC)

def startD (n : Nat) (ds : List D) : List SV := ds.map SV.d ++ List.replicate (n - ds.length) .no
theorem rel_start {W : WT} {K : Kn} {F H : Hp} {N : List Str} {vs : List V} {ds : List D} (e : Same F H) (dk : DeckIn W F H) (r : Reps K F vs ds) : Rel ⟨W, F, H⟩ K (startD N.length ds) (L2.start N vs) F H := by
  refine ⟨Grow.refl e, dk, dk, ?_, fun _ => none, ⟨fun i j a z => (nomatch z), fun i a z => (nomatch z)⟩, fun i x v e1 e2 => ?_⟩
  · unfold startD L2.start
    simp [r.length]
  · unfold startD at e1
    unfold L2.start at e2
    by_cases hi : i < ds.length
    · rw [List.getElem?_append_left (by simpa using hi)] at e1
      rw [List.getElem?_append_left (by simpa [r.length] using hi)] at e2
      rw [List.getElem?_map] at e1 e2
      cases ed : ds[i]? with
      | none =>
        rw [ed] at e1
        cases e1
      | some d =>
        rw [ed] at e1
        obtain ⟨u, h1, h2⟩ := r.get ed
        rw [h1] at e2
        cases e1
        cases e2
        exact h2
    · rw [List.getElem?_append_right (by simpa using hi)] at e1
      rw [List.getElem?_append_right (by simpa [r.length] using hi)] at e2
      have h1 := List.eq_of_mem_replicate (List.mem_of_getElem? e1)
      have h2 := List.eq_of_mem_replicate (List.mem_of_getElem? e2)
      subst h1 h2
      exact True.intro
/-- behind a def's body -/
@[simp] def endsD (Q : D → Prop) : Ed := { nx := fun _ => Q .non, rt := Q, bk := fun _ => False, ct := fun _ => False }
section
variable {P : Program} {w : World} {K : PySem.W.Frag} {mg : Str → Option Value} {base : Heap} {x qual : Str} {st : Stmt} {f : Addr} {fd : FuncData} {N ps : List Str} {k : Nat} {sp : DSp} {g : WD → (Er → Prop) → GS} {T : List (Addr × Str)}
abbrev cxD (P : Program) (w : World) (K : PySem.W.Frag) (mg : Str → Option Value) (base : Heap) (N : List Str) (qual : Str) (st : Stmt) (f : Addr) (cdv : Value) (A : Around) (outer : List Env) (s : Shared) (H : Hp) (E : XK) : Cx :=
  cxOf (L2.CX P w) P w K mg base N qual (defScope st) f cdv A outer s H E
theorem body_run {cdv : Value} {A : Around} {outer : List Env} {s : Shared} {H : Hp} {E : XK} {W : WD} {F : Hp} {ds : List D} {vs : List V} {Qd : D → Prop} {Q : VK} {R : Er → Prop} (hb : SDs ⟨⟨W, T⟩, F, H⟩ (cxD P w K mg base N qual st f cdv A outer s H E) (defBody st) (g W R))
    (e : Same F H) (dk : DeckIn ⟨W, T⟩ F H) (r : Reps ⟨K, mg⟩ F vs ds) (q : g W R (endsD Qd) (startD N.length ds)) (kf : Fin ⟨⟨W, T⟩, F, H⟩ ⟨K, mg⟩ F H Qd Q) :
    ∃ t, PSs (cxD P w K mg base N qual st f cdv A outer s H E) (defBody st) t ∧ t { nx := fun _ H' => Q .non H', rt := Q } (L2.start N vs) H :=
  ⟨_, hb.run, startD N.length ds, F, endsD Qd, rel_start e dk r, q, ⟨fun σ s F' H' _ R' qn => kf .non qn F' H' .non R'.base R'.deck .non, fun d v F' H' g' dk' r' qd => kf d qd F' H' v g' dk' r', fun _ _ _ _ _ _ z => z.elim, fun _ _ _ _ _ _ z => z.elim⟩⟩
theorem okD (F : Fun K x qual st f fd) (S : FnScope N ps (defScope st)) (hlen : ∀ W ds Q R, sp W ds Q R → ds.length = ps.length)
    (body : ∀ (cdv : Value) (A : Around) (outer : List Env) (s : Shared) (H : Hp) (E : XK) (W : WD) (F : Hp) (R : Er → Prop), Room k (A.deeper (envOfC qual (defScope st) s.heap.objs.size f cdv)) → FinE ⟨W, T⟩ ⟨K, mg⟩ F H R E →
      PassesOwn (model P w) (cxD P w K mg base N qual st f cdv A outer s H E).A (cxD P w K mg base N qual st f cdv A outer s H E).env (cxD P w K mg base N qual st f cdv A outer s H E).xe →
      Passes (L2.CX P w) (cxD P w K mg base N qual st f cdv A outer s H E) E → SDs ⟨⟨W, T⟩, F, H⟩ (cxD P w K mg base N qual st f cdv A outer s H E) (defBody st) (g W R))
    (law : ∀ W ds Q R, sp W ds Q R → g W R (endsD Q) (startD N.length ds)) : FnOk P w K mg base (L2.CX P w) (k + 1) f fd ps (liftSp ⟨K, mg⟩ T sp) := by
  refine F.okX S (fun vs H Q E ⟨W, F, ds, Qd, Rd, h1, h2, h3, h4, _⟩ => h3.length.trans (hlen _ _ _ _ h4)) fun cdv A outer s H vs Q E hr ⟨W, F, ds, Qd, Rd, h1, h2, h3, h4, h5, h6⟩ => ?_
  exact body_run (body cdv A outer s H E W F Rd hr h6 (passes_of rfl) (passes_call (takes_of rfl rfl rfl rfl) fun _ _ _ _ z => z)) h1 h2 h3 (law W ds Qd Rd h4) h5
theorem okG (F : Fun K x qual st f fd) (S : FnScope N ps (defScope st)) (hlen : ∀ W ds Q R, sp W ds Q R → ds.length = ps.length)
    (body : ∀ (cdv : Value) (A : Around) (outer : List Env) (s : Shared) (H : Hp) (E : XK) (W : WD) (F : Hp) (R : Er → Prop), (A.deeper (envOfC qual (defScope st) s.heap.objs.size f cdv)).guards = some [] → Room k (A.deeper (envOfC qual (defScope st) s.heap.objs.size f cdv)) → FinE ⟨W, T⟩ ⟨K, mg⟩ F H R E →
      PassesOwn (model P w) (cxD P w K mg base N qual st f cdv A outer s H E).A (cxD P w K mg base N qual st f cdv A outer s H E).env (cxD P w K mg base N qual st f cdv A outer s H E).xe →
      Passes (L2.CX P w) (cxD P w K mg base N qual st f cdv A outer s H E) E → SDs ⟨⟨W, T⟩, F, H⟩ (cxD P w K mg base N qual st f cdv A outer s H E) (defBody st) (g W R))
    (law : ∀ W ds Q R, sp W ds Q R → g W R (endsD Q) (startD N.length ds)) : FnG P w K mg base (k + 1) f fd ps (liftSp ⟨K, mg⟩ T sp) := by
  obtain ⟨oc, od, kV, doc, pm, an, cdv, ct, osl, rfl, lk, hcd⟩ := F.ex
  refine fn_ofG lk hcd S (fun vs H Q E ⟨W, F, ds, Qd, Rd, h1, h2, h3, h4, _⟩ => h3.length.trans (hlen _ _ _ _ h4)) fun A outer s H vs Q E hG hr ⟨W, F, ds, Qd, Rd, h1, h2, h3, h4, h5, h6⟩ => ?_
  exact body_run (body cdv A outer s H E W F Rd hG hr h6 (passes_of rfl) (passes_call (takes_of rfl rfl rfl rfl) fun _ _ _ _ z => z)) h1 h2 h3 (law W ds Qd Rd h4) h5
end

/-- the def of the name x keeps sp, at the level k -/
structure OkD (P : Program) (w : World) (K : PySem.W.Frag) (mg : Str → Option Value) (base : Heap) (T : List (Addr × Str)) (x : Str) (st : Stmt) (k : Nat) (ps : List Str) (sp : DSp) : Prop where
  ex : ∃ f fd, mg x = some (.ref f) ∧ Fun K x x st f fd ∧ FnOk P w K mg base (L2.CX P w) k f fd ps (liftSp ⟨K, mg⟩ T sp)
structure OkG (P : Program) (w : World) (K : PySem.W.Frag) (mg : Str → Option Value) (base : Heap) (T : List (Addr × Str)) (x : Str) (st : Stmt) (k : Nat) (ps : List Str) (sp : DSp) : Prop where
  ex : ∃ f fd, mg x = some (.ref f) ∧ Fun K x x st f fd ∧ FnG P w K mg base k f fd ps (liftSp ⟨K, mg⟩ T sp)
/-- how the def st binds by position, by keyword -/
abbrev BindsP (x : Str) (st : Stmt) (ps : List Str) : Prop := ∀ (kV doc pm : Value) (an : Option Addr) (cdv ct : Value) (us : List Value), us.length = ps.length → bindArgs (PySem.W.fnOf x x (defArgs st) (defBody st) (defScope st) .none kV doc pm an cdv ct) ⟨us, []⟩ = pure (ps.zip us)
abbrev BindsKw (x : Str) (st : Stmt) (ps ks : List Str) (n m : Nat) (pm : List Nat) : Prop := ∀ (kV doc pmv : Value) (an : Option Addr) (cdv ct : Value) (us ws : List Value), us.length = n → ws.length = m →
  bindArgs (PySem.W.fnOf x x (defArgs st) (defBody st) (defScope st) .none kV doc pmv an cdv ct) ⟨us, ks.zip ws⟩ = pure (ps.zip (permA n m pm us ws))
section
variable {B : Bs} {X : Cx} {k : Nat} {ps : List Str} {sp : DSp} {R : Er → Prop} {E : XK} {x : Str} {st : Stmt} {p pos : Pos} {e : Expr} {es : List Expr} {fs fk : GA} {ks : List Str} {kws : List Keyword} {n m : Nat} {pm : List Nat}
theorem ed_o (O : OkD X.prog X.w X.K X.mg X.base B.W.T x st k ps sp) (b : BindsP x st ps) (hr : Room k X.A) (hx : Passes (L2.CX X.prog X.w) X E) (hE : FinE B.W X.kn B.F B.H R E) (ha : AD B X (e :: es) fs) (hg : Gl X x := by rfl) (hdb : (x == ("__debug__" : Str)) = false := by decide)
    (he : starEach (e :: es) X.env = (false, eval e X.env) :: starEach es X.env := by rfl) (hpl : (backTo pos (starEach es X.env)).any (·.1) = false := by rfl) : ED B X (.Call (.Name x p) (e :: es) [] pos) (gCall sp B.W.p R fs) := by
  obtain ⟨f, fd, hm, F, G⟩ := O.ex
  exact ed_call G hr hg hm F.kp (F.binds b) hx hE ha hdb he hpl
theorem ed_g (O : OkG X.prog X.w X.K X.mg X.base B.W.T x st k ps sp) (b : BindsP x st ps) (hG : X.A.guards = some []) (hr : Room k X.A) (hx : Passes (L2.CX X.prog X.w) X E) (hE : FinE B.W X.kn B.F B.H R E) (ha : AD B X (e :: es) fs) (hg : Gl X x := by rfl) (hdb : (x == ("__debug__" : Str)) = false := by decide)
    (he : starEach (e :: es) X.env = (false, eval e X.env) :: starEach es X.env := by rfl) (hpl : (backTo pos (starEach es X.env)).any (·.1) = false := by rfl) : ED B X (.Call (.Name x p) (e :: es) [] pos) (gCall sp B.W.p R fs) := by
  obtain ⟨f, fd, hm, F, G⟩ := O.ex
  exact ed_callG G hG hr hg hm F.kp (F.binds b) hx hE ha hdb he hpl
theorem kb_of {K : PySem.W.Frag} {f : Addr} {fd : FuncData} (F : Fun K x x st f fd) (hp : ps ≠ []) (b : BindsKw x st ps ks n m pm) : KBinds K fd ps ks (permA n m pm) (permA n m pm) := by
  obtain ⟨oc, od, kV, doc, pmv, an, cdv, ct, osl, rfl, lk, hcd⟩ := F.ex
  exact kb_perm hp fun us ws h1 h2 => b kV doc pmv an cdv ct us ws h1 h2
theorem ed_ok0 (O : OkD X.prog X.w X.K X.mg X.base B.W.T x st k ps sp) (hp : ps ≠ []) (b : BindsKw x st ps ks n m pm) (hr : Room k X.A) (hx : Passes (L2.CX X.prog X.w) X E) (hE : FinE B.W X.kn B.F B.H R E) (hkw : KD B X kws fk) (hg : Gl X x := by rfl)
    (hall : (backToKw pos (keywordEach kws X.env)).all (·.1.isSome) = true := by rfl) (hks : (backToKw pos (keywordEach kws X.env)).filterMap (·.1) = ks := by rfl)
    (hdb : (x == ("__debug__" : Str)) = false := by decide)
    (hpl : ((backTo pos (starEach [] X.env)).any (·.1) || (backToKw pos (keywordEach kws X.env)).any (·.1.isNone)) = false := by rfl) : ED B X (.Call (.Name x p) [] kws pos) (gCallK sp n m pm B.W.p R gNil fk) := by
  obtain ⟨f, fd, hm, F, G⟩ := O.ex
  exact ed_callK0 G hr hg hm F.kp (kb_of F hp b) hx hE hkw hall hks hdb hpl
end
end ND

/-! ND9: the deck: making it, drawing from it -/
namespace ND
open PySem PySem.Spec L2
open PyProof.Rows (envOfC)

theorem nbMax : bootBuiltins "max" = some (.builtin "max") := by decide +kernel
theorem nbInt : bootBuiltins "int" = some (.type "int") := by decide +kernel
theorem nbBool : bootBuiltins "bool" = some (.type "bool") := by decide +kernel
theorem nbTuple : bootBuiltins "tuple" = some (.type "tuple") := by decide +kernel
theorem nbList : bootBuiltins "list" = some (.type "list") := by decide +kernel
theorem nbLen : bootBuiltins "len" = some (.builtin "len") := by decide +kernel
theorem nbAbs : bootBuiltins "abs" = some (.builtin "abs") := by decide +kernel
theorem nbIsi : bootBuiltins "isinstance" = some (.builtin "isinstance") := by decide +kernel
theorem nbRepr : bootBuiltins "repr" = some (.builtin "repr") := by decide +kernel

theorem nosl {x : Str} {j : Nat} {p : Pos} : NoSl (.Constant (.str x) j p) := fun _ _ => rfl
abbrev iM (t : TA) : TE := tCB (fun xs H Q => (∃ i, xs = [V.int i] ∧ Q (V.int i) H) ∨ ∃ k, xs = [V.bl k] ∧ Q (V.int (if k = true then 1 else 0)) H) t
abbrev aP (a b : TE) : TE := tOp (rI0 fun i j => V.int (i + j)) a b
abbrev mP (a b : TE) : TE := tOp (rI CMul fun i j => V.int (i * j)) a b
abbrev rP (a b : TE) : TE := tOp (rI (fun _ j => 0 < j) fun i j => V.int (i % j)) a b
abbrev fP (a b : TE) : TE := tOp (rI CDivW fun i j => V.int (i / j)) a b
abbrev dG (k : Str) : TE := tDGet (tVar 0) (tC (V.str k))
abbrev tDraw6 : TS :=
  tSeq (tAsg (rP (iM (tCons (mP (tVar 2) (tC (V.int 40692))) tNil)) (tC (V.int 2147483647))) (gName 2))
  (tRet (rP (iM (tCons (fP (tVar 2) (tC (V.int 64))) tNil)) (tVar 1)))
abbrev tDraw5 : TS :=
  tSeq (tAsg (rP (iM (tCons (aP (aP (mP (tVar 2) (tVar 2)) (mP (tC (V.int 52774)) (dG "draws"))) (tC (V.int 17))) tNil)) (tC (V.int 2147483399))) (gName 2)) tDraw6
abbrev tDraw4 : TS :=
  tSeq (tAsg (rP (iM (tCons (aP (mP (tVar 2) (tC (V.int 40014))) (tC (V.int 91))) tNil)) (tC (V.int 2147483563))) (gName 2)) tDraw5
abbrev tDraw3 (K : PySem.W.Frag) : TS :=
  tIfS (tTest (tOp (rNeD K) (dG "left") (tLst tNil)))
    (tSeq (tAsg (tBM0 K "list" rPop (dG "left")) (gName 3))
      (tSeq (tIfS (tTest (tOp (rI0 fun i j => V.bl (decide (j ≤ i))) (tVar 3) (tOp (rI CPow fun i j => V.int (i ^ j.toNat)) (tC (V.int 10)) (tC (V.int 18)))))
        (tSeq (tDrop (tBM K "list" rAppend (dG "left") (tCons (fP (tVar 3) (tCB (fun xs H Q => ∃ i j, xs = [V.int i, V.int j] ∧ Q (V.int (if j > i then j else i)) H) (tCons (tC (V.int 2)) (tCons (tVar 1) tNil)))) tNil)))
          (tRet (rP (iM (tCons (tVar 3) tNil)) (tVar 1))))
        tNext)
      (tAsg (aP (tVar 2) (rP (iM (tCons (tVar 3) tNil)) (tC (V.int 2147483629)))) (gName 2))))
    tNext
abbrev tDraw (c : Int) (K : PySem.W.Frag) : TS :=
  tSeq (sDPut (tVar 0) (tC (V.str "draws")) (aP (dG "draws") (tC (V.int 1))))
  (tSeq (tAsg (aP (dG "mixed") (mP (tC (V.int c)) (dG "draws"))) (gName 2))
  (tSeq (tDraw3 K) tDraw4))

theorem kl_d : (Sum.inr (PySem.Str.ofString "left") : Key) ≠ Sum.inr (PySem.Str.ofString "draws") := by decide +kernel
theorem km_d : (Sum.inr (PySem.Str.ofString "mixed") : Key) ≠ Sum.inr (PySem.Str.ofString "draws") := by decide +kernel
theorem kl_m : (Sum.inr (PySem.Str.ofString "left") : Key) ≠ Sum.inr (PySem.Str.ofString "mixed") := by decide +kernel
section
variable {H : Hp} {d l : Addr} {m n : Int} {ns : List Int}
theorem dg_left (h : H d = some (deckO l m n)) : DGet H d (.str "left") (some (.ref l)) := .inl ⟨_, .inr "left", .inl h, rfl, by rw [valV_pos rfl]⟩
theorem dg_mixed (h : H d = some (deckO l m n)) : DGet H d (.str "mixed") (some (.int m)) := .inl ⟨_, .inr "mixed", .inl h, rfl, by rw [valV_neg kl_m, valV_pos rfl]⟩
theorem dg_draws (h : H d = some (deckO l m n)) : DGet H d (.str "draws") (some (.int n)) := .inl ⟨_, .inr "draws", .inl h, rfl, by rw [valV_neg kl_d, valV_neg km_d, valV_pos rfl]⟩
theorem dp_draws (h : H d = some (deckO l m n)) (k : Int) : DPut H d (.str "draws") (.int k) (upd H d (deckO l m k)) := .inl ⟨_, .inr "draws", h, rfl, by show 3 < sizeLine; decide, by
  have e : putK [((Sum.inr "left" : Key), V.ref l), (Sum.inr "mixed", V.int m), (Sum.inr "draws", V.int n)] (Sum.inr "draws") (V.int k) = [((Sum.inr "left" : Key), V.ref l), (Sum.inr "mixed", V.int m), (Sum.inr "draws", V.int k)] := by
    unfold putK
    simp only [List.any_cons, decide_true, Bool.true_or, Bool.or_true, List.any_nil, if_true, List.map_cons, List.map_nil, kl_d, km_d, if_false]
  rw [e]
  rfl⟩
theorem dp_ints {K : PySem.W.Frag} : ∀ ns : List Int, DpAll K H (ns.map V.int) (ns.map PyData.int)
  | [] => .nil
  | n :: ns => .cons (.int n) (dp_ints ns)
theorem ints_lay : ∀ ns : List Int, PyData.canLayAll0 (ns.map PyData.int) = true ∧ PyData.depthAll (ns.map PyData.int) ≤ 1
  | [] => by simp [PyData.canLayAll0, PyData.depthAll]
  | n :: ns => by
    obtain ⟨h1, h2⟩ := ints_lay ns
    simp only [List.map_cons, PyData.canLayAll0, PyData.depthAll, PyData.canLay0, PyData.depth, Bool.true_and]
    exact ⟨h1, Nat.max_le.mpr ⟨Nat.zero_le _, h2⟩⟩
theorem ints_shaped (ns : List Int) : SeqAt.shaped (.list (ns.map PyData.int)) = true := by
  obtain ⟨h1, h2⟩ := ints_lay ns
  show ((PyData.list (ns.map PyData.int)).canLay0 && decide ((PyData.list (ns.map PyData.int)).depth ≤ 64)) = true
  have d1 : (PyData.list (ns.map PyData.int)).canLay0 = true := by simpa [PyData.canLay0] using h1
  have d2 : (PyData.list (ns.map PyData.int)).depth ≤ 64 := by
    simp only [PyData.depth]
    exact Nat.le_trans (Nat.succ_le_succ h2) (by decide)
  rw [d1, decide_eq_true d2]
  rfl
theorem ints_empty : ∀ ns : List Int, PyData.eqv (.list (ns.map PyData.int)) (.list []) = ns.isEmpty
  | [] => by simp [PyData.eqv, PyData.eqvAll]
  | n :: ns => by simp [PyData.eqv, PyData.eqvAll]

/-- what the deck has become -/
structure DkAt (d l : Addr) (H H' : Hp) (m n : Int) (ns : List Int) : Prop where
  hd : H' d = some (deckO l m n)
  hl : H' l = some (.lst (ns.map V.int))
  kp : ∀ a o, H a = some o → a ≠ d → a ≠ l → H' a = some o
  st : ∀ a, H a ≠ none → H' a ≠ none
  nt : ∀ a ps, H' a = some (.tbl ps) → H a = some (.tbl ps)
theorem DkAt.grow {F H' : Hp} {m' n' : Int} {ns' : List Int} {T : List (Addr × Str)} (h0 : DeckIn ⟨some (d, l), T⟩ F H) (e : Same F H) (h : DkAt d l H H' m' n' ns') (hl : ns'.length ≤ 63) (h1 : 0 ≤ m') (h2 : m' < 2147483587) : Grow ⟨some (d, l), T⟩ F H F H' ∧ DeckIn ⟨some (d, l), T⟩ F H' := by
  have z0 := h0.dk _ rfl
  have zd : ∀ a o, H a = some o → (∀ ks, o ≠ .dK ks) → (∀ xs, o ≠ .lst xs) → H' a = some o := fun a o q n1 n2 => by
    obtain ⟨_, _, _, e1, e2, _⟩ := z0.st
    refine h.kp a o q (fun z => ?_) (fun z => ?_)
    · rw [z, show H d = _ from e1] at q
      exact n1 _ (Option.some.inj q).symm
    · rw [z, show H l = _ from e2] at q
      exact n2 _ (Option.some.inj q).symm
  refine ⟨⟨Same.refl F, fun a o q => h.kp a o (e a o q) (fun z => ?_) (fun z => ?_), fun a o q w _ => h.kp a o q (fun z => w (.inl ⟨_, rfl, .inl z⟩)) fun z => w (.inl ⟨_, rfl, .inr z⟩), fun a q _ => q, h.st⟩, fun p hp => ?_, h0.tf, fun x hx => ?_, h0.nf, fun a ps e => h0.ot a ps (h.nt a ps e)⟩
  · have := z0.fd
    rw [← show a = d from z, q] at this
    cases this
  · have := z0.fl
    rw [← show a = l from z, q] at this
    cases this
  · cases hp
    exact ⟨z0.fd, z0.fl, z0.ne, ns', m', n', h.hd, h.hl, hl, h1, h2⟩
  · obtain ⟨ps, a1, a2, a3⟩ := h0.tb x hx
    refine ⟨ps, zd _ _ a1 (fun _ z => nomatch z) (fun _ z => nomatch z), a2, fun pos cv hc => ?_⟩
    obtain ⟨c, b1, b2⟩ := a3 pos cv hc
    exact ⟨c, b1, zd _ _ b2 (fun _ z => nomatch z) (fun _ z => nomatch z)⟩
theorem mod_lt' {a b : Int} (h : 0 < b) : 0 ≤ a % b ∧ a % b < b := ⟨Int.emod_nonneg _ (by omega), Int.emod_lt_of_pos _ h⟩
theorem small64 {a : Int} (h1 : 0 ≤ a) (h2 : a < 4294967296) : -(2 ^ 64) < a ∧ a < 2 ^ 64 := by
  have e : (2 : Int) ^ 64 = 18446744073709551616 := by decide
  omega
theorem draw6 {D : Ends} {k z : Int} {y : Option V} (hz : 0 ≤ z ∧ z < 2147483399) (hk : 0 < k) (hQ : ∀ r, 0 ≤ r → r < k → D.rt (.int r) H) : tDraw6 D [some (.ref d), some (.int k), some (.int z), y] H := by
  refine ⟨_, rfl, _, _, rfl, rfl, .inl (small64 hz.1 (by omega)), .inl ⟨_, rfl, _, _, rfl, rfl, (by show (0 : Int) < 2147483647; decide), ?_⟩⟩
  refine ⟨_, rfl, _, _, rfl, rfl, ⟨by decide, by decide⟩, .inl ⟨_, rfl, _, rfl, _, _, rfl, rfl, hk, ?_⟩⟩
  exact hQ _ (mod_lt' hk).1 (mod_lt' hk).2
theorem draw5 {D : Ends} {k z : Int} {y : Option V} (hd : H d = some (deckO l m n)) (hz : 0 ≤ z ∧ z < 2147483563) (hk : 0 < k) (hQ : ∀ r, 0 ≤ r → r < k → D.rt (.int r) H) : tDraw5 D [some (.ref d), some (.int k), some (.int z), y] H :=
  ⟨_, rfl, _, rfl, _, _, rfl, rfl, .inl (small64 hz.1 (by omega)), _, rfl, _, _, rfl, dg_draws hd, _, _, rfl, rfl, .inl (small64 (by decide) (by decide)), _, _, rfl, rfl, _, _, rfl, rfl, .inl ⟨_, rfl, _, _, rfl, rfl, (by show (0 : Int) < 2147483399; decide), draw6 (mod_lt' (by decide)) hk hQ⟩⟩
theorem draw4 {D : Ends} {k z : Int} {y : Option V} (hd : H d = some (deckO l m n)) (hk : 0 < k) (hQ : ∀ r, 0 ≤ r → r < k → D.rt (.int r) H) : tDraw4 D [some (.ref d), some (.int k), some (.int z), y] H :=
  ⟨_, rfl, _, _, rfl, rfl, .inr (small64 (by decide) (by decide)), _, _, rfl, rfl, .inl ⟨_, rfl, _, _, rfl, rfl, (by show (0 : Int) < 2147483563; decide), draw5 hd (mod_lt' (by decide)) hk hQ⟩⟩
theorem draw_law {K : PySem.W.Frag} {c : Int} {D : Ends} {k : Int} {y1 y2 : Option V} (hc : -(2 ^ 64) < c ∧ c < 2 ^ 64) (hd : H d = some (deckO l m n)) (hl : H l = some (.lst (ns.map V.int))) (hdl : d ≠ l) (hn : ns.length ≤ 63) (hk : 0 < k) (hk2 : k < 2 ^ 62)
    (hQ : ∀ H' n' ns' r, DkAt d l H H' m n' ns' → ns'.length ≤ 63 → 0 ≤ r → r < k → D.rt (.int r) H') : tDraw c K D [some (.ref d), some (.int k), y1, y2] H := by
  refine ⟨_, rfl, _, _, rfl, dg_draws hd, _, _, rfl, rfl, _, rfl, _, _, rfl, dp_draws hd (n + 1), ?_⟩
  have hd1 : upd H d (deckO l m (n + 1)) d = some (deckO l m (n + 1)) := upd_same
  have hl1 : upd H d (deckO l m (n + 1)) l = some (.lst (ns.map V.int)) := by rw [upd_ne hdl.symm]; exact hl
  have k1 : ∀ a o, H a = some o → a ≠ d → a ≠ l → upd H d (deckO l m (n + 1)) a = some o := fun a o q z _ => by rw [upd_ne z]; exact q
  have s1 : ∀ a, H a ≠ none → upd H d (deckO l m (n + 1)) a ≠ none := fun a q => upd_keep q
  have t1 : ∀ a ps, upd H d (deckO l m (n + 1)) a = some (.tbl ps) → H a = some (.tbl ps) := ot_upd (by intro _ z; cases z)
  generalize upd H d (deckO l m (n + 1)) = H1 at hd1 hl1 k1 s1 t1 ⊢
  refine ⟨_, rfl, _, _, rfl, dg_mixed hd1, _, rfl, _, _, rfl, dg_draws hd1, _, _, rfl, rfl, .inl hc, _, _, rfl, rfl, ?_⟩
  generalize m + c * (n + 1) = z
  refine ⟨_, rfl, _, _, rfl, dg_left hd1, Nat.zero_le _, fun p hp => ?_⟩
  have npd : d ≠ p := ne_of_none hd1 hp
  have npl : l ≠ p := ne_of_none hl1 hp
  have hd2 : upd H1 p (.lst []) d = some (deckO l m (n + 1)) := by rw [upd_ne npd]; exact hd1
  have hl2 : upd H1 p (.lst []) l = some (.lst (ns.map V.int)) := by rw [upd_ne npl]; exact hl1
  have k2 : ∀ a o, H a = some o → a ≠ d → a ≠ l → upd H1 p (.lst []) a = some o := fun a o q z z2 => by
    have w := k1 a o q z z2
    rw [upd_ne (ne_of_none w hp)]
    exact w
  have s2 : ∀ a, H a ≠ none → upd H1 p (.lst []) a ≠ none := fun a q => upd_keep (s1 a q)
  have hp2 : upd H1 p (.lst []) p = some (.lst []) := upd_same
  have t2 : ∀ a ps, upd H1 p (.lst []) a = some (.tbl ps) → H a = some (.tbl ps) := fun a ps e => t1 a ps (ot_upd (by intro _ z; cases z) a ps e)
  generalize upd H1 p (.lst []) = H2 at hd2 hl2 k2 s2 hp2 t2 ⊢
  refine ⟨.list (ns.map PyData.int), .list [], .lst (SqL.of hl2) (dp_ints ns), .lst (SqL.of hp2) .nil, ints_shaped ns, by decide +kernel, _, rfl, ?_⟩
  rw [ints_empty]
  cases hns : ns.isEmpty with
  | true => exact draw4 hd2 hk fun r h1 h2 => hQ H2 (n + 1) ns r ⟨hd2, hl2, k2, s2, t2⟩ hn h1 h2
  | false =>
    have hne : ns ≠ [] := by
      intro z
      rw [z] at hns
      cases hns
    obtain ⟨cs, cell, rfl⟩ : ∃ cs cell, ns = cs ++ [cell] := ⟨ns.dropLast, ns.getLast hne, (List.dropLast_concat_getLast hne).symm⟩
    have hcs : cs.length + 1 ≤ 63 := by simpa using hn
    have e0 : ((cs ++ [cell]).map V.int).dropLast = cs.map V.int := by simp
    refine ⟨_, rfl, _, _, rfl, dg_left hd2, .inl ⟨rfl, _, SqL.of hl2⟩, _, _, .int cell, rfl, rfl, hl2, by simp, ?_⟩
    rw [e0]
    have hd3 : upd H2 l (.lst (cs.map V.int)) d = some (deckO l m (n + 1)) := by rw [upd_ne hdl]; exact hd2
    have hl3 : upd H2 l (.lst (cs.map V.int)) l = some (.lst (cs.map V.int)) := upd_same
    have k3 : ∀ a o, H a = some o → a ≠ d → a ≠ l → upd H2 l (.lst (cs.map V.int)) a = some o := fun a o q z z2 => by rw [upd_ne z2]; exact k2 a o q z z2
    have s3 : ∀ a, H a ≠ none → upd H2 l (.lst (cs.map V.int)) a ≠ none := fun a q => upd_keep (s2 a q)
    have t3 : ∀ a ps, upd H2 l (.lst (cs.map V.int)) a = some (.tbl ps) → H a = some (.tbl ps) := fun a ps e => t2 a ps (ot_upd (by intro _ z; cases z) a ps e)
    generalize upd H2 l (.lst (cs.map V.int)) = H3 at hd3 hl3 k3 s3 t3 ⊢
    refine ⟨_, rfl, _, _, rfl, rfl, ⟨by decide, by decide, by decide⟩, _, _, rfl, rfl, _, rfl, ?_⟩
    refine ite2 (fun hbig => ?_) (fun hbig => ?_)
    · skip
      have hmax : 0 < (if k > 2 then k else 2) ∧ (if k > 2 then k else 2) < 2 ^ 62 := by
        have e62 : (2 : Int) ^ 62 = 4611686018427387904 := by decide
        rw [e62] at hk2 ⊢
        split <;> omega
      refine ⟨_, rfl, _, _, rfl, dg_left hd3, .inl ⟨rfl, _, SqL.of hl3⟩, _, rfl, _, rfl, _, _, rfl, _, _, rfl, rfl, ⟨hmax.1, ?_⟩, _, _, _, rfl, rfl, hl3, by rw [List.length_map]; exact Nat.lt_of_le_of_lt (by omega : cs.length ≤ 63) (by decide), ?_⟩
      · have h9 : (if k > 2 then k else 2).natAbs < 2 ^ 62 := by
          have e62 : (2 : Int) ^ 62 = 4611686018427387904 := by decide
          have f62 : (2 : Nat) ^ 62 = 4611686018427387904 := by decide
          rw [e62] at hmax
          rw [f62]
          omega
        exact Nat.lt_of_le_of_lt (PySem.W.mg_log (k := 61) h9) (by decide)
      · refine ⟨_, rfl, .inl ⟨_, rfl, _, rfl, _, _, rfl, rfl, hk, ?_⟩⟩
        refine hQ _ (n + 1) (cs ++ [cell / (if k > 2 then k else 2)]) _ ⟨?_, ?_, fun a o q z z2 => ?_, fun a q => upd_keep (s3 a q), fun a ps e => t3 a ps (ot_upd (by intro _ z; cases z) a ps e)⟩ (by simpa using hcs) (mod_lt' hk).1 (mod_lt' hk).2
        · rw [upd_ne hdl]; exact hd3
        · rw [upd_same]; simp
        · rw [upd_ne z2]; exact k3 a o q z z2
    · refine ⟨_, rfl, _, rfl, .inl ⟨_, rfl, _, _, rfl, rfl, (by show (0 : Int) < 2147483629; decide), _, _, rfl, rfl, ?_⟩⟩
      exact draw4 hd3 hk fun r h1 h2 => hQ H3 (n + 1) cs r ⟨hd3, hl3, k3, s3, t3⟩ (by omega) h1 h2
end
/-- what drawing keeps -/
def spDraw : DSp := fun W ds Q _ => ∃ d l k, W = some (d, l) ∧ ds = [.opq (.ref d), .int k] ∧ 0 < k ∧ k < 2 ^ 62 ∧ ∀ r, 0 ≤ r → r < k → Q (.int r)
theorem okDraw {P : Program} {w : World} {K : PySem.W.Frag} {mg : Str → Option Value} {base : Heap} {x qual : Str} {st : Stmt} {f : Addr} {fd : FuncData} {N ps : List Str} {c : Int} {T : List (Addr × Str)} (F : Fun K x qual st f fd) (S : FnScope N ps (defScope st)) (hN : N.length = 4) (hp : ps.length = 2) (hc : -(2 ^ 64) < c ∧ c < 2 ^ 64)
    (body : ∀ (cdv : Value) (A : Around) (outer : List Env) (s : Shared) (H : Hp) (E : XK), Room 0 (A.deeper (envOfC qual (defScope st) s.heap.objs.size f cdv)) → PSs (cxD P w K mg base N qual st f cdv A outer s H E) (defBody st) (tDraw c K)) : FnOk P w K mg base (L2.CX P w) 1 f fd ps (liftSp ⟨K, mg⟩ T spDraw) := by
  refine F.okX S (fun vs H Q E ⟨W, F, ds, Qd, Rd, h1, h2, h3, ⟨d, l, k, _, h4, _⟩, _⟩ => ?_) fun cdv A outer s H vs Q E hr ⟨W, F, ds, Qd, Rd, h1, h2, h3, ⟨d, l, k, hW, hds, hk, hk2, hq⟩, h5, h6⟩ => ?_
  · rw [h3.length, h4, hp]
    rfl
  · refine ⟨_, body cdv A outer s H E hr, ?_⟩
    subst hds hW
    obtain ⟨v1, v2, rfl, r1, r2⟩ : ∃ v1 v2, vs = [v1, v2] ∧ Rep ⟨K, mg⟩ F v1 (.opq (.ref d)) ∧ Rep ⟨K, mg⟩ F v2 (.int k) := by
      cases h3 with
      | cons a t =>
        cases t with
        | cons b t =>
          cases t
          exact ⟨_, _, rfl, a, b⟩
    cases r1
    cases r2
    have dk := h2.dk _ rfl
    obtain ⟨ns, m, n, e1, e2, e3, e4, e5⟩ := dk.st
    have es : L2.start N [V.ref d, V.int k] = [some (.ref d), some (.int k), none, none] := by
      unfold L2.start
      rw [hN]
      rfl
    rw [es]
    exact draw_law hc e1 e2 dk.ne e3 hk hk2 fun H' n' ns' r z hl hr0 hr1 => by
      obtain ⟨g, dk'⟩ := z.grow h2 h1 hl e4 e5
      exact h5 _ (hq r hr0 hr1) F H' _ g dk' (.int r)
end ND

/-! ND10: making the deck; the law's own def -/
namespace ND
open PySem PySem.Spec L2
open PyProof.Rows (envOfC)

abbrev sL (K : PySem.W.Frag) : TE := tSl (rSlL K) (tVar 0) tNoPart (tPart (tC (V.int 63)))
abbrev tDeck (c b : Int) (K : PySem.W.Frag) : TS :=
  tSeq (tAsg (tC (V.int c)) (gName 1))
  (tSeq (tFor (iList K (sL K)) (gName 2) (tAsg (rP (iM (tCons (aP (aP (mP (tVar 1) (tC (V.int 48271))) (rP (iM (tCons (tVar 2) tNil)) (tC (V.int 2147483629)))) (tC (V.int b))) tNil)) (tC (V.int 2147483587))) (gName 1)))
  (tRet (tDisp [(tC (V.str "left"), tRevL K (tCB (fun xs H Q => ∃ p ys, xs = [V.ref p] ∧ (SqL K H p ys ∨ SqT K H p ys) ∧ ∀ l, H l = none → Q (V.ref l) (upd H l (.lst ys))) (tCons (sL K) tNil))), (tC (V.str "mixed"), tVar 1), (tC (V.str "draws"), tC (V.int 0))])))
theorem cut_ints (ns : List Int) (lo hi : Option Int) (h : ns.length ≤ 63) : ∃ ms : List Int, cutV (ns.map V.int) lo hi = ms.map V.int ∧ ms.length ≤ 63 := by
  refine ⟨(ns.drop (HT.sIx (ns.map V.int).length 0 lo)).take (HT.sIx (ns.map V.int).length (ns.map V.int).length hi - HT.sIx (ns.map V.int).length 0 lo), ?_, ?_⟩
  · unfold cutV
    rw [List.map_take, List.map_drop]
  · rw [List.length_take, List.length_drop]
    omega
theorem merge_deck (l : Addr) (m n : Int) : mergeK [] [((Sum.inr "left" : Key), V.ref l), (Sum.inr "mixed", V.int m), (Sum.inr "draws", V.int n)] = [((Sum.inr "left" : Key), V.ref l), (Sum.inr "mixed", V.int m), (Sum.inr "draws", V.int n)] := by
  have a1 := kl_m
  have a2 := kl_d
  have a3 := km_d
  simp [mergeK, putK, a1, a2, a3]
section
variable {K : PySem.W.Frag} {H : Hp} {a : Addr} {ns : List Int} {c b : Int} {D : Ends}
theorem deck_law (hc : 0 ≤ c ∧ c < 2147483587) (hS : SqL K H a (ns.map V.int)) (hn : ns.length ≤ 63)
    (hQ : ∀ (H' : Hp) (d l : Addr) (m : Int) (ns' : List Int), Same H H' → (∀ a ps, H' a = some (.tbl ps) → H a = some (.tbl ps)) → H d = none → H l = none → d ≠ l → H' d = some (deckO l m 0) → H' l = some (.lst (ns'.map V.int)) → ns'.length ≤ 63 → 0 ≤ m → m < 2147483587 → D.rt (.ref d) H') :
    tDeck c b K D [some (.ref a), none, none] H := by
  obtain ⟨ms, em, hm⟩ := cut_ints ns none (some 63) hn
  refine ⟨_, rfl, _, rfl, a, _, rfl, hS, fun p hp => ⟨p, rfl, ⟨_, SqL.of upd_same⟩, ?_⟩⟩
  have hSp : Same H (upd H p (.lst (ms.map V.int))) := same_new hp
  rw [em]
  refine for_list (K := K) (a := p) (xs := ms.map V.int) (fun i σ H' => H' = upd H p (.lst (ms.map V.int)) ∧ ∃ m v, σ = [some (.ref a), some (.int m), v] ∧ 0 ≤ m ∧ m < 2147483587) ⟨rfl, c, none, rfl, hc⟩ (fun i σ H' _ ⟨e, _⟩ => by rw [e]; exact SqL.of upd_same) ?_ ?_
  · rintro i y σ H' hi ⟨rfl, m, v, rfl, h1, h2⟩
    obtain ⟨z, rfl⟩ : ∃ z, y = V.int z := by
      obtain ⟨z, _, e⟩ := List.mem_map.mp (List.mem_of_getElem? hi)
      exact ⟨z, e.symm⟩
    exact ⟨_, rfl, _, _, rfl, rfl, .inr (small64 (by decide) (by decide)), _, rfl, .inl ⟨_, rfl, _, _, rfl, rfl, (by show (0 : Int) < 2147483629; decide), _, _, rfl, rfl, _, _, rfl, rfl, .inl ⟨_, rfl, _, _, rfl, rfl, (by show (0 : Int) < 2147483587; decide), rfl, _, _, rfl, mod_lt' (by decide)⟩⟩⟩
  · rintro σ H' ⟨rfl, m, v, rfl, h1, h2⟩
    have tSp : ∀ a ps, upd H p (.lst (ms.map V.int)) a = some (.tbl ps) → H a = some (.tbl ps) := ot_upd (by intro _ z; cases z)
    generalize upd H p (.lst (ms.map V.int)) = H1 at hSp tSp
    intro d hd
    have hS1 : Same H1 (upd H1 d (.dK [])) := same_new hd
    have hd2 : upd H1 d (.dK []) d = some (.dK []) := upd_same
    have d0 := hSp.free hd
    have hS' := hSp.trans hS1
    have tS' : ∀ a ps, upd H1 d (.dK []) a = some (.tbl ps) → H a = some (.tbl ps) := fun a ps e => tSp a ps (ot_upd (by intro _ z; cases z) a ps e)
    generalize upd H1 d (.dK []) = H2 at hd2 hS' tS'
    refine ⟨_, rfl, _, rfl, a, _, rfl, hS'.seq hS, fun q hq => ?_⟩
    have hd3 : upd H2 q (.lst (cutV (ns.map V.int) none (some 63))) d = some (.dK []) := by rw [upd_ne (ne_of_none hd2 hq)]; exact hd2
    have hS3 := hS'.trans (same_new (o := .lst (cutV (ns.map V.int) none (some 63))) hq)
    have hq3 : upd H2 q (.lst (cutV (ns.map V.int) none (some 63))) q = some (.lst (cutV (ns.map V.int) none (some 63))) := upd_same
    have tS3 : ∀ a ps, upd H2 q (.lst (cutV (ns.map V.int) none (some 63))) a = some (.tbl ps) → H a = some (.tbl ps) := fun a ps e => tS' a ps (ot_upd (by intro _ z; cases z) a ps e)
    generalize upd H2 q (.lst (cutV (ns.map V.int) none (some 63))) = H3 at hd3 hS3 hq3 tS3
    refine ⟨q, _, rfl, .inl (SqL.of hq3), fun r hr => ?_⟩
    rw [em] at hq3 ⊢
    have hd4 : upd H3 r (.lst (ms.map V.int)) d = some (.dK []) := by rw [upd_ne (ne_of_none hd3 hr)]; exact hd3
    have hS4 := hS3.trans (same_new (o := .lst (ms.map V.int)) hr)
    have hr4 : upd H3 r (.lst (ms.map V.int)) r = some (.lst (ms.map V.int)) := upd_same
    have tS4 : ∀ a ps, upd H3 r (.lst (ms.map V.int)) a = some (.tbl ps) → H a = some (.tbl ps) := fun a ps e => tS3 a ps (ot_upd (by intro _ z; cases z) a ps e)
    generalize upd H3 r (.lst (ms.map V.int)) = H4 at hd4 hS4 hr4 tS4
    refine ⟨r, _, rfl, SqL.of hr4, fun l hl => ?_⟩
    have ndl : d ≠ l := ne_of_none hd4 hl
    have l0 := hS4.free hl
    have er : (ms.map V.int).reverse = (ms.reverse).map V.int := by rw [List.map_reverse]
    rw [er]
    refine ⟨_, rfl, by rw [upd_ne ndl]; exact hd4, [(.inr "left", .ref l), (.inr "mixed", .int m), (.inr "draws", .int 0)], rfl, (by show 3 ≤ 15; decide), ?_⟩
    rw [merge_deck]
    refine hQ _ d l m ms.reverse (fun b o e => ?_) (fun a ps e => tS4 a ps (ot_upd (by intro _ z; cases z) a ps (ot_upd (by intro _ z; cases z) a ps e))) d0 l0 ndl upd_same (by rw [upd_ne ndl.symm]; exact upd_same) (by simpa using hm) h1 h2
    have nb : b ≠ d := fun z => by rw [z, d0] at e; cases e
    rw [upd_ne nb]
    have nb2 : b ≠ l := fun z => by rw [z, l0] at e; cases e
    rw [upd_ne nb2]
    exact hS4 _ _ e
end
/-- a new deck -/
def spDeck (K : PySem.W.Frag) : Sp := fun vs H Q _ => ∃ (a : Addr) (ns : List Int), vs = [.ref a] ∧ SqL K H a (ns.map V.int) ∧ ns.length ≤ 63 ∧ ∀ H' d l, Same H H' → (∀ a ps, H' a = some (.tbl ps) → H a = some (.tbl ps)) → H d = none → H l = none → DeckAt (d, l) (fun _ => none) H' → Q (.ref d) H'
theorem okDeck {P : Program} {w : World} {K : PySem.W.Frag} {mg : Str → Option Value} {base : Heap} {x qual : Str} {st : Stmt} {f : Addr} {fd : FuncData} {N ps : List Str} {c b : Int} (F : Fun K x qual st f fd) (S : FnScope N ps (defScope st)) (hN : N.length = 3) (hp : ps.length = 1) (hc : 0 ≤ c ∧ c < 2147483587)
    (body : ∀ (cdv : Value) (A : Around) (outer : List Env) (s : Shared) (H : Hp) (E : XK), Room 0 (A.deeper (envOfC qual (defScope st) s.heap.objs.size f cdv)) → PSs (cxD P w K mg base N qual st f cdv A outer s H E) (defBody st) (tDeck c b K)) : FnOk P w K mg base (L2.CX P w) 1 f fd ps (spDeck K) := by
  refine F.okX S (fun vs H Q E ⟨a, ns, h1, _⟩ => ?_) fun cdv A outer s H vs Q E hr ⟨a, ns, h1, h2, h3, h4⟩ => ⟨_, body cdv A outer s H E hr, ?_⟩
  · rw [h1, hp]
    rfl
  · subst h1
    have es : L2.start N [V.ref a] = [some (.ref a), none, none] := by
      unfold L2.start
      rw [hN]
      rfl
    rw [es]
    exact deck_law hc h2 h3 fun H' d l m ns' s1 t1 d0 l0 ndl e1 e2 hl m0 m1 => h4 H' d l s1 t1 d0 l0 ⟨rfl, rfl, ndl, ns', m, 0, e1, e2, hl, m0, m1⟩

/-! ### the law: its first statement makes the deck -/
def hp0 : Hp := fun _ => none
theorem pss_deck {T : List (Addr × Str)} {X : Cx} {rest : List Stmt} {g : WD → GS} (h : ∀ p H0, SDs ⟨⟨some p, T⟩, hp0, H0⟩ X rest (g (some p))) : PSs X rest fun Dn s H => ∃ p H0, LS ⟨⟨some p, T⟩, hp0, H0⟩ X.kn (g (some p)) Dn s H :=
  ⟨fun pins s σ H Dn I ⟨p, H0, q⟩ => (h p H0).run.run pins s σ H Dn I q⟩
/-- what the law promises -/
def spLaw (K : PySem.W.Frag) (T : List (Addr × Str)) : Sp := fun vs H Q _ => ∃ (a : Addr) (script : List Int), vs = [.ref a] ∧ SqL K H a (script.map V.int) ∧ script.length ≤ 63 ∧ (∀ x, x ∈ T → H x.1 = some (.tbl #[])) ∧ (∀ a ps, H a = some (.tbl ps) → ∃ x, x ∈ T ∧ a = x.1) ∧ ∀ G, Q (.bl true) G
theorem okLaw {P : Program} {w : World} {K : PySem.W.Frag} {mg : Str → Option Value} {base : Heap} {x qual : Str} {st s0 : Stmt} {rest : List Stmt} {f : Addr} {fd : FuncData} {N : List Str} {y : Str} {k : Nat} {g : WD → GS} {T : List (Addr × Str)} (F : Fun K x qual st f fd) (S : FnScope N [y] (defScope st)) (hN : 1 < N.length)
    (hst : defBody st = s0 :: rest)
    (body : ∀ (cdv : Value) (A : Around) (outer : List Env) (s : Shared) (H : Hp) (E : XK), (A.deeper (envOfC qual (defScope st) s.heap.objs.size f cdv)).guards = some [] → Room k (A.deeper (envOfC qual (defScope st) s.heap.objs.size f cdv)) →
      PassesOwn (model P w) (cxD P w K mg base N qual st f cdv A outer s H E).A (cxD P w K mg base N qual st f cdv A outer s H E).env (cxD P w K mg base N qual st f cdv A outer s H E).xe →
      Passes (L2.CX P w) (cxD P w K mg base N qual st f cdv A outer s H E) E →
      PS (cxD P w K mg base N qual st f cdv A outer s H E) s0 (tAsg (tCall (spDeck K) [] E (tCons (tVar 0) tNil)) (gName 1)) ∧
      ∀ p H0, SDs ⟨⟨some p, T⟩, hp0, H0⟩ (cxD P w K mg base N qual st f cdv A outer s H E) rest (g (some p)))
    (law : ∀ (d l : Addr) (v : V), g (some (d, l)) (endsD fun r => r = .bl true) (.d (.opq v) :: .d (.opq (.ref d)) :: List.replicate (N.length - 2) .no)) : FnG P w K mg base (k + 1) f fd [y] (spLaw K T) := by
  obtain ⟨oc, od, kV, doc, pm, an, cdv, ct, osl, rfl, lk, hcd⟩ := F.ex
  refine fn_ofG lk hcd S (fun vs H Q E ⟨a, ns, h1, _⟩ => by rw [h1]; rfl) fun A outer s H vs Q E hG hr ⟨a, ns, h1, h2, h3, hT, hO, h4⟩ => ?_
  subst h1
  obtain ⟨b1, b2⟩ := body cdv A outer s H E hG hr (passes_of rfl) (passes_call (takes_of rfl rfl rfl rfl) fun _ _ _ _ z => z)
  have b3 := pss_cons b1 (pss_deck b2)
  rw [← hst] at b3
  refine ⟨_, b3, ?_⟩
  have es : L2.start N [V.ref a] = some (.ref a) :: none :: List.replicate (N.length - 2) none := by
    unfold L2.start
    obtain ⟨m, hm⟩ : ∃ m, N.length = m + 2 := ⟨N.length - 2, by omega⟩
    rw [hm]
    rfl
  rw [es]
  refine ⟨_, rfl, a, ns, rfl, h2, h3, fun H' d l s1 t1 d0 l0 dk => ?_⟩
  refine ⟨(d, l), H', .d (.opq (.ref a)) :: .d (.opq (.ref d)) :: List.replicate (N.length - 2) .no, hp0, endsD fun r => r = .bl true, ?_, law d l (.ref a), ?_⟩
  · have dki : DeckIn ⟨some (d, l), T⟩ hp0 H' := ⟨fun p hp => by cases hp; exact dk, fun _ _ => rfl, fun x hx => LamX.TabS.nil (s1 _ _ (hT x hx)), fun _ _ z => (nomatch z), fun a ps e => hO a ps (t1 a ps e)⟩
    refine ⟨Grow.refl fun _ _ z => (nomatch z), dki, dki, by simp, fun _ => none, ⟨fun i j a z => (nomatch z), fun i a z => (nomatch z)⟩, fun i z v e1 e2 => ?_⟩
    match i with
    | 0 =>
      simp only [List.getElem?_cons_zero, Option.some.injEq] at e1
      have e2' : some (some (V.ref a)) = some v := e2
      cases e2'
      subst e1
      exact .opq _
    | 1 =>
      have e1' : some (SV.d (.opq (.ref d))) = some z := e1
      have e2' : some (some (V.ref d)) = some v := e2
      cases e1'
      cases e2'
      exact .opq _
    | i + 2 =>
      have e1' : (List.replicate (N.length - 2) SV.no)[i]? = some z := e1
      have e2' : (List.replicate (N.length - 2) (none : Option V))[i]? = some v := e2
      have h1 := List.eq_of_mem_replicate (List.mem_of_getElem? e1')
      have h2 := List.eq_of_mem_replicate (List.mem_of_getElem? e2')
      subst h1 h2
      exact True.intro
  · refine ⟨fun _ _ _ _ _ _ z => ?_, fun r v F' H2 _ _ rv e => ?_, fun _ _ _ _ _ _ z => z.elim, fun _ _ _ _ _ _ z => z.elim⟩
    · cases (show D.non = .bl true from z)
    · subst e
      cases rv
      exact h4 _
end ND

/-! ND11: the end of a law, from FnG -/
namespace ND
open PySem PySem.Spec L2 PyProof.Rows
open PyProof.Rows (envOfC)

/-- the script alone is tracked, if it is not of the written part -/
def scH (K : PySem.W.Frag) (a : Addr) (o : Obj) (ns : List Int) : Hp := fun b => if b = a ∧ K.lookup a = none then some (.frz o (.lst (ns.map V.int))) else none
theorem scH_some {K : PySem.W.Frag} {a b : Addr} {o : Obj} {ns : List Int} {u : HO} (h : scH K a o ns b = some u) : b = a ∧ K.lookup a = none ∧ u = .frz o (.lst (ns.map V.int)) := by
  unfold scH at h
  split at h
  · rename_i c
    cases h
    exact ⟨c.1, c.2, rfl⟩
  · cases h
theorem scH_none {K : PySem.W.Frag} {a b : Addr} {o : Obj} {ns : List Int} (h : b = a → K.lookup a ≠ none) : scH K a o ns b = none := by
  unfold scH
  rw [if_neg fun c => h c.1 c.2]
theorem run_law {P : Program} {w : World} {K : PySem.W.Frag} {mg mb : Str → Option Value} {k : Nat} {fa a : Addr} {fd : FuncData} {x : Str} {sp : Sp} {t : Shared} {vs : List Value} {ns : List Int}
    (KX : K.In t.heap) (nsM : t.heap.Ns mainGlobals mg) (nsB : t.heap.Ns builtinsNs mb) (bb : ∀ y : Str, y ≠ "__name__" → mb y = bootBuiltins y) (lim : t.heap.NoLimit) (gens : t.gens = #[])
    (ha : t.heap.get? a = some { cls := .type "list", data := .seq vs.toArray }) (hi : IntsAre vs ns) (hl : ns.length ≤ sizeLine) (room : Room k callerA)
    (G : ∀ base : Heap, K.In base → base.Ns mainGlobals mg → FnG P w K mg base k fa fd [x] sp) (bind : ∀ (s : Shared) (u : Value), BindsTo s fd ⟨[u], []⟩ [(x, u)])
    (ask : ∀ H : Hp, SqL K H a (ns.map V.int) → (∀ b ps, H b ≠ some (.tbl ps)) → sp [.ref a] H (fun v _ => v = .bl true) fun _ _ _ => False) :
    codeAny (model P w) callerA (.call (.ref fa) ⟨[.ref a], []⟩) (fun r s' => r = .ok (.ret (.bool true)) ∧ OldK t.heap s'.heap ∧ s'.os = t.os ∧ AllBare s'.gens) t := by
  have vals := vals_ints hi
  have sameLen := hi.length
  generalize hH : scH K a { cls := .type "list", data := .seq vs.toArray } ns = H
  have inH : ∀ {b : Addr} {u : HO}, H b = some u → b = a ∧ K.lookup a = none ∧ u = .frz { cls := .type "list", data := .seq vs.toArray } (.lst (ns.map V.int)) := fun e => by
    rw [← hH] at e
    exact scH_some e
  have outH : ∀ {b : Addr}, (b = a → K.lookup a ≠ none) → H b = none := fun e => by
    rw [← hH]
    exact scH_none e
  have seqA : SqL K H a (ns.map V.int) := by
    cases ek : K.lookup a with
    | none =>
      refine .inl (.inr ⟨{ cls := .type "list", data := .seq vs.toArray }, ?_⟩)
      rw [← hH]
      unfold scH
      rw [if_pos ⟨rfl, ek⟩]
    | some o =>
      have same := KX a o ek
      rw [ha] at same
      cases same
      exact .inr ⟨_, vs.toArray, _, ek, rfl, rfl, rfl, by rw [List.size_toArray, sameLen]; exact hl, by simpa using vals⟩
  have okH : HOk P w H t.heap := fun b u e => by
    obtain ⟨rfl, _, rfl⟩ := inH e
    exact ⟨ha, by rw [List.length_map]; exact hl, vs, _, vals, ha⟩
  have stays : ∀ {b : Addr} {o : Obj}, t.heap.get? b = some o → H b = none → (hidT t.heap H).get? b = some o := fun e n => hidT_get e n
  have nsStays : ∀ {b : Addr} {m : Str → Option Value}, t.heap.Ns b m → (hidT t.heap H).Ns b m := fun {b m} ⟨o, es, ep, e, dt, r⟩ => by
    refine ⟨o, es, ep, stays e ?_, dt, r⟩
    cases q : H b with
    | none => rfl
    | some u =>
      obtain ⟨rfl, _, _⟩ := inH q
      rw [ha] at e
      cases e
      exact absurd (show Data.seq vs.toArray _ = Data.dict es ep from dt) (by intro z; cases z)
  have kIn : K.In (hidT t.heap H) := fun b o e => stays (KX b o e) (outH fun z => by
    subst z
    rw [e]
    exact Option.some_ne_none _)
  obtain ⟨mc, l1, l2⟩ := lim
  have env : Env0 P w K mg (hidT t.heap H) callerA [] t H := ⟨rfl, ⟨kIn, nsStays nsM, ⟨mb, nsStays nsB, bb⟩, mc, nsStays l1, l2⟩, fun b o e => of_hidT e, Nat.le_of_eq (hidT_size _ _), trivial, fun b hb => (nomatch hb), okH, .of_eq gens⟩
  have run := (G _ kIn (nsStays nsM)).run callerA [] t H ⟨[.ref a], []⟩ [.ref a] [.ref a] _ _ rfl room env (bind t (.ref a)) (.cons rfl .nil) (ask H seqA fun b ps e => by obtain ⟨_, _, z⟩ := inH e; cases z)
  refine codeAny_mono run fun r s' h => ?_
  rcases r with e | fl
  · obtain ⟨_, _, _, _, _, _, _, _, _, _, _, _, no⟩ := (show L2.CX P w [] H t (fun _ _ _ => False) e s' from h)
    exact no.elim
  · cases fl with
    | ret u =>
      obtain ⟨v, H', os, bare, un, hok', r', q⟩ := h
      have q' : v = .bl true := q
      subst q'
      obtain rfl : u = Value.bool true := r'
      refine ⟨rfl, OldK.of_keep fun b o e => ?_, os, bare⟩
      cases q : H b with
      | none => exact un.keep b o e q (fun z => (nomatch z)) (by simp)
      | some u =>
        obtain ⟨rfl, _, rfl⟩ := inH q
        obtain ⟨g1, _⟩ := hok' b _ (un.frzs b _ _ q)
        rw [ha] at e
        cases e
        exact g1
    | next => exact False.elim h
    | brk => exact False.elim h
    | cont => exact False.elim h
theorem walkG {l : PySem.W.OpenLaw} {k : Nat} {q : Program} {loose : List Str} {XP : (Str → Option Value) → Heap → Prop} {YP : World → Heap → Prop} {d : DefRec} {K : Params → PySem.W.Frag} {x : Str}
    (hn : l.most = some 63) (hdf : d.params.defaults = []) (hr : Room k callerA) (hY : ∀ (w : World) (h : Heap), YP w h → (K w.params).In h)
    (G : ∀ (w : World) (mg : Str → Option Value) (fa : Addr) (h : Heap), (K w.params).In h → h.Ns mainGlobals mg → mg d.name = some (.ref fa) →
      ∃ fd : FuncData, (∀ (s : Shared) (u : Value), BindsTo s fd ⟨[u], []⟩ [(x, u)]) ∧ ∀ base : Heap, (K w.params).In base → base.Ns mainGlobals mg → FnG l.prog w (K w.params) mg base k fa fd [x] (spLaw (K w.params) [])) :
    PySem.W.WalkO q loose XP YP l.row.toRowW d [] (fun f vs => PySem.call f vs) := by
  refine Att.attach_callB hn hdf fun w s₀ t mg mb fa o pm cd doc a vs ns Gd Y ho hd hcd hmg hobj hints hlen hbits hg => ?_
  have inK := hY w _ Y
  obtain ⟨fd, bind, run⟩ := G w mg fa _ inK Gd.T.g hmg
  exact run_law inK Gd.T.g Gd.T.b Gd.T.builtins Gd.T.nolimit hg hobj hints (Nat.le_trans hlen (by decide)) hr run bind fun H hS nt => ⟨a, ns, rfl, hS, hlen, fun _ z => (nomatch z), fun b ps e => absurd e (nt b ps), fun _ => rfl⟩
theorem hu65_of {A : Around} {k : Nat} (hr : Room k A) : A.units + 65 < cLine := by have := hr.un; omega
end ND
namespace ND
open PySem PySem.Spec L2
/-! ### for the plain laws -/
@[simp] theorem addD_i (i j : Int) (Q : D → Prop) : addD (.int i) (.int j) Q = Q (.int (i + j)) := rfl
@[simp] theorem addD_s (i j : Str) (Q : D → Prop) : addD (.str i) (.str j) Q = (i.length + j.length ≤ sizeLine ∧ Q (.str (i ++ j))) := rfl
@[simp] theorem addD_t (i j : List D) (Q : D → Prop) : addD (.tup i) (.tup j) Q = (i.length + j.length ≤ sizeLine ∧ Q (.tup (i ++ j))) := rfl
@[simp] theorem addD_l (i j : List D) (Q : D → Prop) : addD (.lst i) (.lst j) Q = (i.length + j.length ≤ sizeLine ∧ Q (.lst (i ++ j))) := rfl
@[simp] theorem subD_i (i j : Int) (Q : D → Prop) : subD (.int i) (.int j) Q = Q (.int (i - j)) := rfl
@[simp] theorem mulD_i (i j : Int) (Q : D → Prop) : mulD (.int i) (.int j) Q = (ND.MulOk i j ∧ Q (.int (i * j))) := rfl
@[simp] theorem fdivD_i (i j : Int) (Q : D → Prop) : fdivD (.int i) (.int j) Q = (0 < j ∧ j.natAbs.log2 < 9000 ∧ Q (.int (i / j))) := rfl
@[simp] theorem modD_i (i j : Int) (Q : D → Prop) : modD (.int i) (.int j) Q = (0 < j ∧ Q (.int (i % j))) := rfl
@[simp] theorem negD_i (i : Int) (Q : D → Prop) : negD (.int i) Q = Q (.int (-i)) := rfl
@[simp] theorem ltD_i (i j : Int) (Q : D → Prop) : ltD (.int i) (.int j) Q = Q (.bl (decide (i < j))) := rfl
@[simp] theorem leD_i (i j : Int) (Q : D → Prop) : leD (.int i) (.int j) Q = Q (.bl (decide (i ≤ j))) := rfl
@[simp] theorem gtD_i (i j : Int) (Q : D → Prop) : gtD (.int i) (.int j) Q = Q (.bl (decide (j < i))) := rfl
@[simp] theorem geD_i (i j : Int) (Q : D → Prop) : geD (.int i) (.int j) Q = Q (.bl (decide (j ≤ i))) := rfl
@[simp] theorem truthD_b (i : Bool) (Q : Bool → Prop) : truthD (.bl i) Q = Q i := rfl
@[simp] theorem truthD_n (Q : Bool → Prop) : truthD .non Q = Q false := rfl
@[simp] theorem truthD_i (i : Int) (Q : Bool → Prop) : truthD (.int i) Q = Q (i != 0) := rfl
@[simp] theorem truthD_t (i : List D) (Q : Bool → Prop) : truthD (.tup i) Q = Q (!i.isEmpty) := rfl
@[simp] theorem truthD_l (i : List D) (Q : Bool → Prop) : truthD (.lst i) Q = Q (!i.isEmpty) := rfl
@[simp] theorem lenD_l (i : List D) (Q : D → Prop) : lenD [.lst i] Q = Q (.int i.length) := rfl
@[simp] theorem lenD_t (i : List D) (Q : D → Prop) : lenD [.tup i] Q = Q (.int i.length) := rfl
@[simp] theorem lenD_s (x : Str) (Q : D → Prop) : lenD [.str x] Q = (x.length ≤ sizeLine ∧ Q (.int x.length)) := rfl
@[simp] theorem intD_i (i : Int) (Q : D → Prop) : intD [.int i] Q = Q (.int i) := rfl
@[simp] theorem intD_b (i : Bool) (Q : D → Prop) : intD [.bl i] Q = Q (.int (if i = true then 1 else 0)) := rfl
@[simp] theorem intD_s (x : Str) (Q : D → Prop) : intD [.str x] Q = (∃ n, intText? x = some n ∧ x.length ≤ 640 ∧ Q (.int n)) := rfl
@[simp] theorem absD_i (i : Int) (Q : D → Prop) : absD [.int i] Q = Q (.int (if i < 0 then -i else i)) := rfl
@[simp] theorem max2D_i (i j : Int) (Q : D → Prop) : max2D [.int i, .int j] Q = Q (.int (if j > i then j else i)) := rfl
@[simp] theorem gcdD_i (i j : Int) (Q : D → Prop) : gcdD [.int i, .int j] Q = Q (.int ((Nat.gcd i.natAbs j.natAbs : Nat) : Int)) := rfl
@[simp] theorem isqrtD_i (i : Int) (Q : D → Prop) : isqrtD [.int i] Q = (0 ≤ i ∧ i.toNat.log2 < 13000 ∧ Q (.int ((Float64.isqrt i.toNat : Nat) : Int))) := rfl
@[simp] theorem eqD_s (a b : Str) (Q : D → Prop) : eqD (.str a) (.str b) Q = Q (.bl (decide (a = b))) := rfl
@[simp] theorem neD_s (a b : Str) (Q : D → Prop) : neD (.str a) (.str b) Q = Q (.bl (!decide (a = b))) := rfl
@[simp] theorem eqD_l (a : List D) (y : D) (Q : D → Prop) : eqD (.lst a) y Q = (pl 64 (.lst a) = true ∧ pl 64 y = true ∧ Q (.bl (eqb (.lst a) y))) := rfl
@[simp] theorem neD_l (a : List D) (y : D) (Q : D → Prop) : neD (.lst a) y Q = (pl 64 (.lst a) = true ∧ pl 64 y = true ∧ Q (.bl (!eqb (.lst a) y))) := rfl
@[simp] theorem eqD_t (a : List D) (y : D) (Q : D → Prop) : eqD (.tup a) y Q = (pl 64 (.tup a) = true ∧ pl 64 y = true ∧ Q (.bl (eqb (.tup a) y))) := rfl
@[simp] theorem neD_t (a : List D) (y : D) (Q : D → Prop) : neD (.tup a) y Q = (pl 64 (.tup a) = true ∧ pl 64 y = true ∧ Q (.bl (!eqb (.tup a) y))) := rfl
@[simp] theorem knInt : knownT "int" = true := by decide
@[simp] theorem knBool : knownT "bool" = true := by decide
@[simp] theorem knTup : knownT "tuple" = true := by decide
@[simp] theorem knList : knownT "list" = true := by decide
@[simp] theorem knStr : knownT "str" = true := by decide
@[simp] theorem knDict : knownT "dict" = true := by decide
@[simp] theorem eqb_int (i j : Int) : eqb (.int i) (.int j) = decide (i = j) := by simp [eqb, toPy, PyData.eqv, BEq.beq]
@[simp] theorem eqb_str (i j : Str) : eqb (.str i) (.str j) = decide (i = j) := by
  simp only [eqb, toPy, PyData.eqv]
  rw [Bool.eq_iff_iff]
  simp
@[simp] theorem eqb_nil : eqb (.lst []) (.lst []) = true := by decide +kernel
@[simp] theorem pl_int (n : Nat) (i : Int) : pl n (.int i) = true := by cases n <;> simp [pl]
@[simp] theorem pl_bl (n : Nat) (i : Bool) : pl n (.bl i) = true := by cases n <;> simp [pl]
@[simp] theorem pl_non (n : Nat) : pl n .non = true := by cases n <;> simp [pl]
@[simp] theorem eqD_i (i j : Int) (Q : D → Prop) : eqD (.int i) (.int j) Q = Q (.bl (decide (i = j))) := by
  show (pl 64 (.int i) = true ∧ pl 64 (.int j) = true ∧ Q (.bl (eqb (.int i) (.int j)))) = _
  simp
@[simp] theorem neD_i (i j : Int) (Q : D → Prop) : neD (.int i) (.int j) Q = Q (.bl (!decide (i = j))) := by
  show (pl 64 (.int i) = true ∧ pl 64 (.int j) = true ∧ Q (.bl (!eqb (.int i) (.int j)))) = _
  simp
@[simp] theorem ix_t3_0 (a b c : D) (Q : D → Prop) : ixD (.tup [a, b, c]) (.int 0) Q = Q a := by simp [ixD, atI, ixN]
@[simp] theorem ix_t3_1 (a b c : D) (Q : D → Prop) : ixD (.tup [a, b, c]) (.int 1) Q = Q b := by simp [ixD, atI, ixN]
@[simp] theorem ix_t3_2 (a b c : D) (Q : D → Prop) : ixD (.tup [a, b, c]) (.int 2) Q = Q c := by simp [ixD, atI, ixN]
@[simp] theorem lineLe (n : Nat) (h : n ≤ 1000 := by decide) : n ≤ sizeLine ↔ True := ⟨fun _ => trivial, fun _ => Nat.le_trans h (by decide)⟩
end ND

/-! ND12: own errors over Exception, with one field -/
namespace ND
open PySem PySem.Spec L2 Builtin Builtin.ObjectAttr
open PyProof.Rows (envOfC)

abbrev exT : List Value := [.type "Exception", .type "BaseException", .type "object"]
/-- what the written part says of an error's class nm, at C, whose __init__(self, fld) stores fld -/
structure ErC (K : PySem.W.Frag) (mg : Str → Option Value) (nm fld : Str) (C fI : Addr) : Prop where
  gC : mg nm = some (.ref C)
  ini : PySem.W.excInitIn K C exT "Exception.__new__" = true
  ovr : PySem.W.excOver K C exT = true
  tkr : PySem.W.takerIn K C fld = some none
  noN : PySem.W.findIn K (.ref C) fld = some none
  sa : PySem.W.findIn K (.ref C) "__setattr__" = some (some (.builtin "object.__setattr__"))
  iC : PySem.W.findIn K (.ref C) "__init__" = some (some (.ref fI))
  tC : PySem.W.typeIn K (.ref fI) = some (.type "function")
  kC : PySem.W.keepIn K (.ref C) = true
  exC : PySem.W.subIn K (.ref C) (.type "BaseException") = some true
  tyC : PySem.W.typeIn K (.ref C) = some (.type "type")
  hdC : PySem.W.hasDictIn K C = true
section
variable {prog : Program} {w : World} {A : Around} {E : Value → Shared → Prop} {R : Result → Shared → Prop} {hp : Heap} {g : Array GenState} {d : Drawn} {t : Nat} {os : OsState} {K : PySem.W.Frag} {mg : Str → Option Value} {nm fld : Str} {C fI : Addr}
theorem er_store {tk : Tok} {v : Value} {x t0 : Addr} (T : ErC K mg nm fld C fI) (X : K.In hp) (hx : hp.get? x = some (HandSPX.excO C t0))
    (hq : ∀ h' tk' dx, (∀ b o, b ≠ x → hp.get? b = some o → h'.get? b = some o) → hp.objs.size ≤ dx → dx ≠ x → h'.get? x = some { cls := .ref C, dict := some dx, data := .fields #[.ref t0, .none, .none, .none, .bool false, .none] } →
      h'.Ns1 dx (fun y => if y = fld then some v else none) → R (.ok (.ret .none)) ⟨h', g, d, tk', os⟩) :
    codeAny (model prog w) A (.call (.builtin "object.__setattr__") ⟨[.ref x, .str fld tk, v], []⟩) R ⟨hp, g, d, t, os⟩ := by
  obtain ⟨cd, hc, _⟩ := PySem.W.any_some T.ovr
  have hh : cd.hasDict = true := by
    have h1 := T.hdC
    unfold PySem.W.hasDictIn at h1
    rw [hc] at h1
    exact h1
  have other : x ≠ hp.objs.size := Nat.ne_of_lt (Heap.lt_size hx)
  refine PySem.W.osa_openX (s := ⟨hp, g, d, t, os⟩) F.store_Exception X (ox := HandSPX.excO C t0) (od := none) ⟨hx, rfl, rfl, trivial⟩ T.ovr T.tkr fun b => ?_
  have hcls : PySem.W.Looks (model prog w) hp (classData C) cd := PySem.W.looks_clsIn X hc
  obtain ⟨cn, bs, mro, ns, qn, hd, sn, sb, ab, col, del⟩ := cd
  dsimp only at hh
  subst hh
  show wpAny _ _ (storeInOwnDict (.ref x) (.ref C) (.str fld tk) fld v b) _ _ _
  unfold storeInOwnDict ownDictForStores
  repeat (first | with_reducible refine HandSPX.store_in_new ?_ ?_ | with_reducible refine wpAny_loadPart_at hx ?_ | with_reducible refine hcls.at ?_ | wp_step)
  · exact ⟨_, #[], _, (Heap.get?_update_ne _ _ _ _ other.symm).trans (Heap.get?_push_at rfl rfl), rfl, fun e he => absurd he (by simp), fun _ => rfl⟩
  · intro h' tk' named only
    have still : (hp.push { cls := .type "dict", data := .dict #[] }).get? x = some (HandSPX.excO C t0) := Heap.get?_push_of_some _ hx
    exact hq h' tk' hp.objs.size (fun b o hb ho => (only.2 b (Nat.ne_of_lt (Heap.lt_size ho))).trans ((Heap.get?_update_ne _ _ _ _ hb).trans (Heap.get?_push_of_some _ ho))) (Nat.le_refl _) other.symm ((only.2 x other).trans (Heap.get?_update_self _ still rfl)) named
/-- what is left of C(v): the error at e, its dict at dx -/
structure ErMade (h h' : Heap) (e C dx : Addr) (fld : Str) (v : Value) : Prop where
  keep : ∀ b o, h.get? b = some o → h'.get? b = some o
  new : h.objs.size ≤ e
  obj : ∃ oe vs, h'.get? e = some oe ∧ oe.cls = .ref C ∧ oe.dict = some dx ∧ oe.data = .fields vs ∧ vs[1]? = some .none
  big : h.objs.size ≤ dx
  ne : dx ≠ e
  ns : h'.Ns1 dx (fun y => if y = fld then some v else none)
/-- the text of __init__(self, fld): self.fld = fld -/
structure ErInit (K : PySem.W.Frag) (qual fld : Str) (st : Stmt) (fI : Addr) : Prop where
  fn : ∃ fd, Fun K "__init__" qual st fI fd
  body : ∃ q1 q2 q3 q4, defBody st = [.Assign [.Attribute (.Name "self" q1) fld q2] (.Name fld q3) q4]
  bind : ∀ (kV doc pm : Value) (an : Option Addr) (cdv ct a b : Value), bindArgs (PySem.W.fnOf "__init__" qual (defArgs st) (defBody st) (defScope st) .none kV doc pm an cdv ct) ⟨[a, b], []⟩ = pure [(("self" : Str), a), (fld, b)]
  kinds : ∀ a b : Value, ([(("self" : Str), a), (fld, b)].all fun y => (defScope st).names.lookup y.1 == some .local || (defScope st).names.lookup y.1 == some .cell) = true
  kSelf : ∀ L a cd, (envOfC qual (defScope st) L a cd).kindOf "self" = some .local
  kFld : ∀ L a cd, (envOfC qual (defScope st) L a cd).kindOf fld = some .local
  bSelf : ∀ L a cd (u v : Value), bindL (envOfC qual (defScope st) L a cd).kindOf [(("self" : Str), u), (fld, v)] (fun _ => none) "self" = some u
  bFld : ∀ L a cd (u v : Value), bindL (envOfC qual (defScope st) L a cd).kindOf [(("self" : Str), u), (fld, v)] (fun _ => none) fld = some v
  sc : (defScope st).kind = .function ∧ (defScope st).isGenerator = false ∧ (defScope st).isCoroutine = false
  nd : (fld == ("__debug__" : Str)) = false
theorem er_local {M : Model} {s : Shared} {env : Env} {x : Str} {pos : Pos} {v : Value} {m : Str → Option Value} {Q : Value → Shared → Prop} {A : Around} {E : Value → Shared → Prop} (hk : env.scope.kind = .function) (hl : env.kindOf x = some .local) (hn : s.heap.Ns env.locals m) (hv : m x = some v) (hd : (x == ("__debug__" : Str)) = false) (h : Q v s) :
    wpAny M A (eval (.Name x pos) env) Q E s := wpAny_Name (wpAny_loadName_local hk hl hn hv h) hd
theorem er_init {s : Shared} {x t0 : Addr} {v : Value} {qual : Str} {st : Stmt} (T : ErC K mg nm fld C fI) (N : ErInit K qual fld st fI) (X : K.In s.heap) (lim : s.heap.NoLimit) (hx : s.heap.get? x = some (HandSPX.excO C t0)) (room : A.depth < recursionLimit)
    (hq : ∀ h' tk dx, (∀ b o, b ≠ x → s.heap.get? b = some o → h'.get? b = some o) → s.heap.objs.size ≤ dx → dx ≠ x → h'.get? x = some { cls := .ref C, dict := some dx, data := .fields #[.ref t0, .none, .none, .none, .bool false, .none] } →
      h'.Ns1 dx (fun y => if y = fld then some v else none) → R (.ok (.ret .none)) { s with heap := h', toks := tk }) :
    codeAny (model prog w) A (.call (.ref fI) ⟨[.ref x, v], []⟩) R s := by
  obtain ⟨fd, oc, od, kV, doc, pm, an, cdv, ct, osl, rfl, here, code⟩ := N.fn.imp fun _ F => F.ex
  obtain ⟨q1, q2, q3, q4, text⟩ := N.body
  obtain ⟨sc1, sc2, sc3⟩ := N.sc
  refine Att.call_fn (binds := [(("self" : Str), .ref x), (fld, v)]) X lim here code room (BindsTo.of_eq (N.bind kV doc pm an cdv ct _ _)) (N.kinds _ _) (fun s₁ IC => ?_) sc3 sc2 sc1
  obtain ⟨h₁, tk₁, rfl⟩ := IC.toInCall.same
  have k : ∀ b o, s.heap.get? b = some o → h₁.get? b = some o := IC.toInCall.keep
  have names := IC.toInCall.ns
  have X₁ : K.In h₁ := X.keeps k
  have hx₁ := k _ _ hx
  rw [text]
  refine wpAny_execs_cons (plainObj_wpAny_Assign_Attribute ?_)
  refine er_local sc1 (N.kFld _ _ _) names (N.bFld _ _ _ _ _) N.nd (er_local sc1 (N.kSelf _ _ _) names (N.bSelf _ _ _ _ _) (by decide) ?_)
  refine PySem.W.set_plain X₁ (ox := HandSPX.excO C t0) (od := none) ⟨hx₁, rfl, rfl, trivial⟩ T.sa ?_
  refine er_store T X₁ hx₁ fun h₃ tk₃ dx k₃ dn dne hx₃ ns₃ => ?_
  have z : s.heap.objs.size < h₁.objs.size := names.lt
  exact wpAny_execs_nil (hq h₃ tk₃ dx (fun b o hb e => k₃ b o hb (k b o e)) (Nat.le_of_lt (Nat.lt_of_lt_of_le z dn)) dne hx₃ ns₃)
theorem er_made {s : Shared} {v : Value} {qual : Str} {st : Stmt} (T : ErC K mg nm fld C fI) (N : ErInit K qual fld st fI) (X : K.In s.heap) (lim : s.heap.NoLimit) (room : A.depth + 1 < recursionLimit)
    (hq : ∀ h' tk e dx, ErMade s.heap h' e C dx fld v → R (.ok (.ret (.ref e))) { s with heap := h', toks := tk }) : codeAny (model prog w) A (.call (.ref C) ⟨[v], []⟩) R s := by
  obtain ⟨hp, g, dr, tk, os⟩ := s
  obtain ⟨cn, Nn, qn, bs, bm, hdct, sn, sub, ab, col, dd, k0, k1, k2, k3, k5, hC, hbm⟩ := PySem.W.excInit_of X T.ini
  have k : ∀ b o, hp.get? b = some o → ((hp.push (PySem.W.kdv_tup [v])).push (HandSPX.excO C hp.objs.size)).get? b = some o := fun b o e => Heap.get?_push_of_some _ (Heap.get?_push_of_some _ e)
  have at_e : ((hp.push (PySem.W.kdv_tup [v])).push (HandSPX.excO C hp.objs.size)).get? (hp.objs.size + 1) = some (HandSPX.excO C hp.objs.size) := by heap_get
  refine HandSPX.call_own F.excBase_Exception hbm hC (PySem.W.looks_findIn X T.iC) (fun self => PySem.W.bind_fn X self T.tC) (by show 1 ≤ sizeLine; decide) ?_
  refine er_init (s := ⟨(hp.push (PySem.W.kdv_tup [v])).push (HandSPX.excO C hp.objs.size), g, dr, tk, os⟩) T N (X.keeps k) (lim.keeps k) at_e (by show A.depth + 1 < recursionLimit; exact room) fun h' tk' dx kept dn dne hx ns => ?_
  have z : hp.objs.size + 1 + 1 ≤ dx := by
    have q := dn
    rw [Heap.size_push, Heap.size_push] at q
    exact q
  exact ⟨rfl, hq h' tk' (hp.objs.size + 1) dx ⟨fun b o e => kept b o (Nat.ne_of_lt (Nat.lt_succ_of_lt (Heap.lt_size e))) (k b o e), Nat.le_succ _, ⟨_, _, hx, rfl, rfl, rfl, rfl⟩, Nat.le_trans (Nat.le_trans (Nat.le_succ _) (Nat.le_succ _)) z, dne, ns⟩⟩
end

/-! ### raising it -/
section
variable {B : Bs} {X : Cx} {C fI : Addr} {nm fld qual : Str} {st : Stmt} {a : Expr} {fa : GE} {p pos : Pos} {k : Nat} {R : Er → Prop} {E : XK}
theorem rel_one {v : V} {u : Value} (r : RelV v u) (f : Str) : RelO (List.lookup f [(fld, v)]) (if f = fld then some u else none) := by
  by_cases e : f = fld
  · subst e
    rw [if_pos rfl]
    simpa [List.lookup] using (show RelO (some v) (some u) from r)
  · rw [if_neg e]
    have b : (f == fld) = false := by simpa using e
    simp only [List.lookup, b]
    trivial
/-- nm(a) makes an error of the class at C, whose dict holds a's value -/
theorem pmk_er {t : TE} (T : ErC X.K X.mg nm fld C fI) (N : ErInit X.K qual fld st fI) (hr : Room k X.A) (ha : PE X a t) (hg : Gl X nm) (ndb : (nm == ("__debug__" : Str)) = false) (he : starEach (a :: []) X.env = (false, eval a X.env) :: starEach [] X.env := by rfl) (hpl : (backTo pos (starEach [] X.env)).any (·.1) = false := by rfl) :
    PMk X (.Call (.Name nm p) [a] [] pos) (fun σ H Q => t σ H fun v G => ∀ dx, G dx = none → Q (.ref C) (some dx) (upd G dx (.xd [(fld, v)]))) := fun pins s σ H Q I h => by
  refine wpAny_Call_Name_kw (ld_glob I hg T.gC (PySem.W.callWith_K (h₀ := X.base) I.ok.mod.kin T.kC (thn ((pa_cons ha pa_nil he).run pos pins s σ H (fun vs G => match vs with | [v] => ∀ dx, G dx = none → Q (.ref C) (some dx) (upd G dx (.xd [(fld, v)])) | _ => False) I h) fun us z ⟨vs, G, J, vals, q⟩ => ⟨J.kIn, ?_⟩) he hpl) ndb)
  match vs, vals, q with
  | [v], .cons (b := u) rv .nil, q =>
    have lim := J.nolimit
    obtain ⟨hp, g, dr, tk, os⟩ := z
    refine wpAny_call (er_made T N J.kIn lim (by have := hr.dp; omega) fun h' tk' e dx M => ?_)
    show MkP X pins σ Q (.ref e) ⟨h', g, dr, tk', os⟩
    obtain ⟨oe, fv, at_e, cls, dct, fields, ctx⟩ := M.obj
    obtain ⟨G', g1, g2⟩ := restrict h' fun b => decide (b ≠ e)
    have off : ∀ b, b ≠ e → G'.get? b = h'.get? b := fun b hb => g1 b (decide_eq_true hb)
    have gone : G'.get? e = none := g2 e (by simp)
    have old : ∀ b o, hp.get? b = some o → G'.get? b = some o := fun b o q => (off b (Nat.ne_of_lt (Nat.lt_of_lt_of_le (Heap.lt_size q) M.new))).trans (M.keep b o q)
    have ok : ObjOk X.prog X.w (upd G dx (.xd [(fld, v)])) G' dx (.xd [(fld, v)]) := ⟨_, M.ns.at (fun o q => (off dx M.ne).trans q), fun f => rel_one rv f⟩
    have J2 : Inv X pins σ (upd G dx (.xd [(fld, v)])) ⟨G', g, dr, tk', os⟩ := J.laid (t' := tk') old M.big ok
    refine ⟨e, oe, fv, ⟨G', g, dr, tk', os⟩, _, .ref C, some dx, rfl, J2, fun b o q => ?_, gone, at_e, ⟨cls, dct⟩, fields, ctx, ?_, rfl, J.bare, raises_own T.exC T.tyC, q dx (J.hok.fresh M.big)⟩
    · have hb : b ≠ e := fun z => by
        have q' : G'.get? b = some o := q
        rw [z, gone] at q'
        cases q'
      exact (off b hb).symm.trans q
    · rw [upd_ne (Ne.symm M.ne)]
      exact J.hok.fresh M.new
/-- raise nm(a) -/
@[simp] def gRaise (nm fld : Str) (fa : GE) (R : Er → Prop) (_ : Ed) (σ : List SV) : Prop := fa σ fun d => R ⟨nm, [(fld, d)]⟩
theorem sd_raise {pos2 : Pos} (hc : X.calm = true) (T : ErC X.K X.mg nm fld C fI) (N : ErInit X.K qual fld st fI) (hr : Room k X.A) (tk : Takes X (fun c o _ H => E c o H)) (hE : FinE B.W X.kn B.F B.H R E) (ha : ED B X a fa) (hg : Gl X nm := by rfl) (ndb : (nm == ("__debug__" : Str)) = false := by decide)
    (he : starEach (a :: []) X.env = (false, eval a X.env) :: starEach [] X.env := by rfl) (hpl : (backTo pos (starEach [] X.env)).any (·.1) = false := by rfl) : SD B X (.Raise (some (.Call (.Name nm p) [a] [] pos)) none pos2) (gRaise nm fld fa R) :=
  ⟨ps_imp (ps_raise hc tk (pmk_er T N hr ha.run hg ndb he hpl)) fun Dn s H ⟨σ, F, Ed, Rl, q, kk⟩ => ⟨σ, F, _, Rl, q, fun d qd F1 H1 v g1 d1 r1 dx hdx =>
    hE _ qd F1 _ (.ref C) (some dx) ((Rl.base.trans g1).trans (Grow.laid g1.fh hdx)) (d1.laid hdx) ⟨T.gC, fun _ => ⟨dx, [(fld, v)], rfl, upd_same, .cons r1 .nil⟩, fun z => nomatch z⟩⟩⟩
end
end ND

/-! ND13: try with several except clauses, named or not -/
namespace ND
open PySem PySem.Spec L2
open PyProof.Rows (envOfC)

/-- an exception that has landed at a, in the state s, to be handled -/
structure Air (X : Cx) (pins : List (Addr × Obj)) (a : Addr) (cls : Value) (d : Option Addr) (σ : L2.St) (H : Hp) (s : Shared) : Prop where
  fly : ∃ G, HandSPX.FlyingZ G (X.env :: X.outer) a (Zc cls d) s.heap ∧ (∀ h, G.StaysIn h → s.heap.UpToSlots h → Inv X pins σ H { s with heap := h }) ∧
    ∀ h (W : WX), HandSPX.HeldZ G (X.env :: X.outer) a (Zc cls d) X.env.locals h → s.heap.UpToSlots h → W cls d σ H → XE X W (.ref a) { s with heap := h }
  na : H a = none
  nL : a ≠ X.env.locals
  nF : a ∉ X.fs
section
variable {X : Cx} {pins : List (Addr × Obj)} {a : Addr} {cls : Value} {d : Option Addr} {σ : L2.St} {H : Hp} {s : Shared}
theorem Air.inv (q : Air X pins a cls d σ H s) : Inv X pins σ H s := by
  obtain ⟨G, fl, inv, _⟩ := q.fly
  exact inv s.heap fl.1 (Heap.UpToSlots.refl _)
theorem Air.again (q : Air X pins a cls d σ H s) {M : Model} {A : Around} {E : Value → Shared → Prop} {P : Unit → Shared → Prop} (h : ∀ t, Air X pins a cls d σ H t → P () t) : wpAny M A (setFlight (.ref a) none) P E s := by
  obtain ⟨G, fl, inv, out⟩ := q.fly
  exact HandSPX.lands_againZ fl fun h' fl' up => h _ ⟨⟨G, fl', fun h2 st up2 => inv h2 st (up.trans up2), fun h2 W hh up2 => out h2 W hh (up.trans up2)⟩, q.na, q.nL, q.nF⟩
theorem Air.suite (q : Air X pins a cls d σ H s) : ∃ oe, s.heap.get? a = some oe ∧ Zc cls d oe ∧ (∃ vs, oe.data = .fields vs) ∧ Inv (X.suite a ((a, oe) :: (X.pn ++ pins))) [] σ H s := by
  obtain ⟨G, fl, _, _⟩ := q.fly
  obtain ⟨oe, vs, at_a, zc, fields⟩ := fl.there
  exact ⟨oe, at_a, zc, ⟨vs, fields⟩, q.inv.suite at_a fields q.na q.nL q.nF⟩
/-- what the body lets out lands -/
theorem air_of {xe : Value → Shared → Prop} {W : WX} {u : Value} {P : Unit → Shared → Prop} {E : Value → Shared → Prop} (ok : X.Ok) (hs : X.stack = X.env :: X.outer) (hf : X.env.frame = some X.env.locals) (x : XE (X.tr (X.pn ++ pins) xe) W u s)
    (h : ∀ a cls d σ H t, u = .ref a → Air X pins a cls d σ H t → W cls d σ H → P () t) : wpAny (model X.prog X.w) X.A (noteFrame u X.env) (fun _ s₂ => wpAny (model X.prog X.w) X.A (setFlight u none) P E s₂) E s := by
  obtain ⟨a, G, sI, _, σ, H, cls, d, rfl, J', nb, up, sky, na, os, ag, w⟩ := x
  have J : Inv X pins σ H sI := J'.ofTry ok
  have frames : X.A.frames = some (X.env :: X.outer) := by rw [ok.frames, hs]
  refine Sky.land Zc.steady frames hf (by rw [← hs]; exact sky) fun h3 fl up3 => h a cls d σ H _ rfl ⟨⟨G, fl, fun h2 st up2 => J.landed nb st ((up.trans up3).trans up2) os ag, fun h2 V hh up2 v => ?_⟩, na, ?_, ?_⟩ w
  · exact ⟨a, G, sI, pins, σ, H, cls, d, rfl, J, nb, (up.trans up3).trans up2, .inr (.inr (by rw [hs]; exact hh)), na, os, ag, v⟩
  all_goals
    obtain ⟨oe, vs, at_a, _, fields⟩ := fl.there
    have out : a ∉ frs (X.env :: X.outer) := fun hm => by
      obtain ⟨_, o', e', no⟩ := fl.2.2.1.mem hm
      rw [at_a] at e'
      cases e'
      exact no _ fields
  · exact fun z => out (List.mem_filterMap.mpr ⟨X.env, List.mem_cons_self, by rw [hf, z]⟩)
  · intro hm
    obtain ⟨e, he, q⟩ := List.mem_filterMap.mp hm
    exact out (List.mem_filterMap.mpr ⟨e, List.mem_cons_of_mem _ he, q⟩)
/-- no clause is left -/
theorem Air.pass {Wout : WX} {P : Flow → Shared → Prop} (q : Air X pins a cls d σ H s) (hf : X.env.frame = some X.env.locals) (tk : Takes X Wout) (w : Wout cls d σ H) : wpAny (model X.prog X.w) X.A (handleBy (.ref a) X.env []) P X.xe s := by
  obtain ⟨G, fl, _, out⟩ := q.fly
  refine wpAny_handleBy_nil ?_
  obtain ⟨_, _, _, oe, vs, T, oT, ts, at_a, zc, fields, trace, _⟩ := id fl
  unfold PySem.passOn
  refine wpAny_bind (wpAny_field at_a fields trace ?_)
  rw [if_neg (show ¬ ((Value.ref T == Value.none) = true) from by simp)]
  have fin : wpAny (model X.prog X.w) X.A (setFlight (.ref a) X.env.frame) (fun _ s4 => wpAny (model X.prog X.w) X.A (throw (.ref a) : Sem Flow) P X.xe s4) X.xe s := by
    rw [hf]
    exact HandSPX.setFlight_upZ fl fun h4 hh up => wpAny_throw (tk _ _ (out h4 Wout hh up w))
  first
    | exact wpAny_bind (wpAny_pure (wpAny_bind fin))
    | exact wpAny_bind fin
end

/-- an except clause: its class, the slot of its name, what its suite asks -/
structure Hdl where
  c : Value
  slot : Option Nat
  ts : Addr → Value → Option Addr → TS
def goneD (D : Ends) (i : Nat) : Ends := { nx := fun σ H => D.nx (σ.set i none) H, rt := D.rt, bk := fun σ H => D.bk (σ.set i none) H, ct := fun σ H => D.ct (σ.set i none) H }
def Hdl.take (h : Hdl) (D : Ends) (a : Addr) (cls : Value) (d : Option Addr) (σ : L2.St) (H : Hp) : Prop := match h.slot with
  | none => h.ts a cls d D σ H
  | some i => h.ts a cls d (goneD D i) (σ.set i (some (.ref a))) H
def wH (K : PySem.W.Frag) (Wout : WX) (D : Ends) : List Hdl → WX
  | [] => Wout
  | h :: r => fun cls d σ H => ∃ b, PySem.W.exmOne K cls h.c = some b ∧ (b = true → ∀ a, H a = none → h.take D a cls d σ H) ∧ (b = false → wH K Wout D r cls d σ H)
inductive HdlsOk (X : Cx) : List ExceptHandler → List Hdl → Prop
  | nil : HdlsOk X [] []
  | plain {x : Str} {c : Value} {ts : Addr → Value → Option Addr → TS} {b₀ : Stmt} {suite : List Stmt} {np pos' : Pos} {hs : List ExceptHandler} {l : List Hdl} (hc : Names X x c)
      (body : ∀ (a : Addr) (oe : Obj) (cls : Value) (d : Option Addr) (pn : List (Addr × Obj)), Zc cls d oe → (∃ vs, oe.data = .fields vs) → PSs (X.suite a ((a, oe) :: pn)) (b₀ :: suite) (ts a cls d)) (r : HdlsOk X hs l) :
      HdlsOk X (.ExceptHandler (some (.Name x np)) none (b₀ :: suite) pos' :: hs) (⟨c, none, ts⟩ :: l)
  | named {x n : Str} {i : Nat} {c : Value} {ts : Addr → Value → Option Addr → TS} {b₀ : Stmt} {suite : List Stmt} {np pos' : Pos} {hs : List ExceptHandler} {l : List Hdl} (hc : Names X x c) (hi : X.N[i]? = some n) (hl : X.env.kindOf n = some .local)
      (body : ∀ (a : Addr) (oe : Obj) (cls : Value) (d : Option Addr) (pn : List (Addr × Obj)), Zc cls d oe → (∃ vs, oe.data = .fields vs) → PSs (X.suite a ((a, oe) :: pn)) (b₀ :: suite) (ts a cls d)) (r : HdlsOk X hs l) :
      HdlsOk X (.ExceptHandler (some (.Name x np)) (some n) (b₀ :: suite) pos' :: hs) (⟨c, some i, ts⟩ :: l)
section
variable {X : Cx} {pins : List (Addr × Obj)} {a : Addr} {cls : Value} {d : Option Addr} {σ : L2.St} {H : Hp} {s : Shared} {D : Ends} {Wout : WX}
/-- the test of a clause -/
theorem Air.test {x : Str} {c : Value} {np : Pos} {b : Bool} {P : Bool → Shared → Prop} {E E' : Value → Shared → Prop} (q : Air X pins a cls d σ H s) (hc : Names X x c) (hb : PySem.W.exmOne X.K cls c = some b) (h : P b s) :
    wpAny (model X.prog X.w) (X.A.mark (some (.ref a))) (eval (.Name x np) X.env) (fun c s₁ => wpAny (model X.prog X.w) (X.A.mark (some (.ref a))) (excMatches (.ref a) c) P E s₁) E' s := by
  obtain ⟨oe, at_a, zc, _, S⟩ := q.suite
  have LT : PySem.W.Looks (model X.prog X.w) s.heap (typeOf (.ref a)) cls := fun A Q E s k q => wpAny_typeOf_ref (k _ _ at_a) (by rw [zc.1]; exact q)
  have LM := PySem.W.exm_one (M := model X.prog X.w) q.inv.kIn LT hb
  obtain ⟨glob, ndb, isOwn | ⟨no, isB, nn⟩⟩ := hc
  · exact ld_glob (X := X.suite a ((a, oe) :: (X.pn ++ pins))) S glob isOwn (LM.here h) ndb
  · exact ld_blt (X := X.suite a ((a, oe) :: (X.pn ++ pins))) S glob no isB (LM.here h) nn ndb
theorem Air.by {hs : List ExceptHandler} {l : List Hdl} (hN : X.N.Nodup) (hf : X.env.frame = some X.env.locals) (tk : Takes X Wout) (q : Air X pins a cls d σ H s) (ok : HdlsOk X hs l) (w : wH X.K Wout D l cls d σ H) : wpAny (model X.prog X.w) X.A (handleBy (.ref a) X.env hs) (SP X pins D) X.xe s := by
  induction ok with
  | nil => exact q.pass hf tk w
  | plain hc body r ih =>
    obtain ⟨b, hb, yes, no⟩ := w
    refine wpAny_handleBy_cons (codeAny_handlers_test (q.test hc hb ?_)) (by intro z; cases z)
    cases b with
    | false => exact ih (no rfl)
    | true =>
      refine codeAny_handlers_suite (q.again fun t qt => ?_)
      obtain ⟨oe, at_a, zc, fields, S⟩ := qt.suite
      refine wpAny_mono ((body a oe cls d (X.pn ++ pins) zc fields).run [] t σ H _ S (yes rfl a q.na)) (fun f s6 h => ?_) fun _ _ z => z.elim
      cases f <;> first
        | (obtain ⟨v, _, _, S6, r6, q6⟩ := h; exact ⟨_, _, _, S6.unsuite q.inv.ok, r6, q6⟩)
        | (obtain ⟨_, _, S6, q6⟩ := h; exact ⟨_, _, S6.unsuite q.inv.ok, q6⟩)
  | @named x n i c ts b₀ suite np pos' hs l hc hi hl body r ih =>
    obtain ⟨b, hb, yes, no⟩ := w
    refine wpAny_handleBy_cons (codeAny_handlers_test (q.test hc hb ?_)) (by intro z; cases z)
    cases b with
    | false => exact ih (no rfl)
    | true =>
      refine codeAny_handlers_suite_as (q.again fun t qt => ?_)
      obtain ⟨oe, at_a, zc, fields, S⟩ := qt.suite
      refine store_ok (X := X.suite a ((a, oe) :: (X.pn ++ pins))) (v := .ref a) S hN hi (.inl hl) rfl (fun s5 S5 => ?_) (.inr hl)
      refine wpAny_mono ((body a oe cls d (X.pn ++ pins) zc fields).run [] s5 _ H _ S5 (yes rfl a q.na)) (fun f s6 h => ?_) fun _ _ z => z.elim
      have fin : ∀ {σ6 : L2.St} {H6 : Hp} {P : Shared → Prop}, Inv (X.suite a ((a, oe) :: (X.pn ++ pins))) [] σ6 H6 s6 → (∀ s7, Inv X pins (σ6.set i none) H6 s7 → P s7) → wpAny (model X.prog X.w) X.A (do bindName X.env n .none; unbindBehindTheSuite X.env n pos') (fun _ s7 => P s7) X.xe s6 :=
        fun {σ6 H6 P} S6 hp => gone_ok (S6.unsuite q.inv.ok) hN hi hl hp
      cases f <;> first
        | (obtain ⟨v, _, _, S6, r6, q6⟩ := h; exact fin S6 fun s7 J7 => ⟨_, _, _, J7, r6, q6⟩)
        | (obtain ⟨_, _, S6, q6⟩ := h; exact fin S6 fun s7 J7 => ⟨_, _, J7, q6⟩)
theorem ps_try_h {body : List Stmt} {h₀ : ExceptHandler} {hs : List ExceptHandler} {l : List Hdl} {tb : WX → TS} {pos : Pos} (hst : X.stack = X.env :: X.outer) (hf : X.env.frame = some X.env.locals) (hN : X.N.Nodup) (tk : Takes X Wout)
    (hb : ∀ (W : WX) (pn : List (Addr × Obj)) (xe : Value → Shared → Prop), Takes (X.tr pn xe) W → PassesOwn (model X.prog X.w) X.A X.env xe → PSs (X.tr pn xe) body (tb W)) (hh : HdlsOk X (h₀ :: hs) l) :
    PS X (.Try body (h₀ :: hs) [] [] pos) (fun D σ H => tb (wH X.K Wout D l) D σ H) :=
  ⟨fun pins s σ H D I h => by
    refine wpAny_Try_except (wpAny_mono ((hb (wH X.K Wout D l) (X.pn ++ pins) _ (fun u s' x => ?_) PassesOwn.looking).run [] s σ H D (I.toTry _) h) (fun f s1 r => ?_) fun _ _ e => e)
    · exact air_of I.ok hst hf x fun a cls d σ' H' t e q w => by
        subst e
        exact q.by hN hf tk hh w
    · cases f with
      | next =>
        obtain ⟨σ', H', J, q⟩ := r
        exact wpAny_execs_nil ⟨σ', H', J.ofTry I.ok, q⟩
      | brk =>
        obtain ⟨σ', H', J, q⟩ := r
        exact ⟨σ', H', J.ofTry I.ok, q⟩
      | cont =>
        obtain ⟨σ', H', J, q⟩ := r
        exact ⟨σ', H', J.ofTry I.ok, q⟩
      | ret u =>
        obtain ⟨v, σ', H', J, rv, q⟩ := r
        exact ⟨v, σ', H', J.ofTry I.ok, rv, q⟩⟩
end
end ND

/-! ND14: try by data (clauses that end with return) -/
namespace ND
open PySem PySem.Spec L2
open PyProof.Rows (envOfC)

theorem xd_notW {W : WT} {F H : Hp} {dx : Addr} {vs : List (Str × V)} (dk : DeckIn W F H) (e : H dx = some (.xd vs)) : ¬ InW W dx := fun z => by
  rcases z with ⟨pp, ep, o⟩ | ⟨x, hx, rfl⟩
  · obtain ⟨ns, m, n, h1, h2, _⟩ := (dk.dk _ ep).st
    rcases o with o | o <;> subst o
    · rw [h1] at e
      cases e
    · rw [h2] at e
      cases e
  · obtain ⟨ps, h1, _⟩ := dk.tb x hx
    rw [h1] at e
    cases e
theorem rel_no {W : WT} {K : Kn} {F H : Hp} (e : Same F H) (dk : DeckIn W F H) (s : L2.St) : Rel ⟨W, F, H⟩ K (List.replicate s.length .no) s F H :=
  ⟨Grow.refl e, dk, dk, by simp, fun _ => none, ⟨fun _ _ _ z => (nomatch z), fun _ _ z => (nomatch z)⟩, fun i x v e1 _ => by
    have := List.eq_of_mem_replicate (List.mem_of_getElem? e1)
    subst this
    exact True.intro⟩
/-- the error er, of the class cls, its dict d, as it stands where a clause begins -/
structure ErAt (K : Kn) (W : WT) (F H : Hp) (cls : Value) (d : Option Addr) (er : Er) : Prop where
  ex : Same F H
  dk : DeckIn W F H
  rep : RepEr K F H cls d er
/-- a clause by data: its class's name, the slot of its name, its suite's reading -/
structure Cls3 where
  nm : Str
  slot : Option Nat
  g : Er → Addr → GS
def clauseStart (n : Nat) (a : Addr) : Option Nat → List SV
  | none => List.replicate n .no
  | some i => (List.replicate n .no).set i (.d (.opq (.ref a)))
/-- what is wanted of an error: by the first clause that takes it, else out -/
def hdG (M : Str → Str → Option Bool) (n : Nat) (out : Er → Prop) (Q : D → Prop) : List Cls3 → Er → Prop
  | [], er => out er
  | c :: r, er => ∃ b, M er.nm c.nm = some b ∧ if b = true then ∀ a, c.g er a { nx := fun _ => False, rt := Q, bk := fun _ => False, ct := fun _ => False } (clauseStart n a c.slot) else hdG M n out Q r er
def tsH (B : Bs) (K : Kn) (g : Er → Addr → GS) (a : Addr) (cls : Value) (d : Option Addr) : TS := fun Dn s H => ∃ F0 H0 er, ErAt K B.W F0 H0 cls d er ∧ LS ⟨B.W, F0, H0⟩ K (g er a) Dn s H
inductive ClausesOk (B : Bs) (X : Cx) : List ExceptHandler → List Cls3 → List Hdl → Prop
  | nil : ClausesOk B X [] [] []
  | plain {x : Str} {cv : Value} {g : Er → Addr → GS} {b₀ : Stmt} {suite : List Stmt} {np pos' : Pos} {hs : List ExceptHandler} {l : List Cls3} {l' : List Hdl} (hg : Gl X x) (nd : (x == ("__debug__" : Str)) = false) (hm : X.mg x = some cv)
      (body : ∀ (a : Addr) (oe : Obj) (cls : Value) (d : Option Addr) (pn : List (Addr × Obj)) (F0 H0 : Hp) (er : Er), Zc cls d oe → (∃ vs, oe.data = .fields vs) → ErAt X.kn B.W F0 H0 cls d er → SDs ⟨B.W, F0, H0⟩ (X.suite a ((a, oe) :: pn)) (b₀ :: suite) (g er a)) (r : ClausesOk B X hs l l') :
      ClausesOk B X (.ExceptHandler (some (.Name x np)) none (b₀ :: suite) pos' :: hs) (⟨x, none, g⟩ :: l) (⟨cv, none, fun a cls d => tsH B X.kn g a cls d⟩ :: l')
  | named {x n : Str} {i : Nat} {cv : Value} {g : Er → Addr → GS} {b₀ : Stmt} {suite : List Stmt} {np pos' : Pos} {hs : List ExceptHandler} {l : List Cls3} {l' : List Hdl} (hg : Gl X x) (nd : (x == ("__debug__" : Str)) = false) (hm : X.mg x = some cv) (hi : X.N[i]? = some n) (hl : X.env.kindOf n = some .local)
      (body : ∀ (a : Addr) (oe : Obj) (cls : Value) (d : Option Addr) (pn : List (Addr × Obj)) (F0 H0 : Hp) (er : Er), Zc cls d oe → (∃ vs, oe.data = .fields vs) → ErAt X.kn B.W F0 H0 cls d er → SDs ⟨B.W, F0, H0⟩ (X.suite a ((a, oe) :: pn)) (b₀ :: suite) (g er a)) (r : ClausesOk B X hs l l') :
      ClausesOk B X (.ExceptHandler (some (.Name x np)) (some n) (b₀ :: suite) pos' :: hs) (⟨x, some i, g⟩ :: l) (⟨cv, some i, fun a cls d => tsH B X.kn g a cls d⟩ :: l')
/-- the classes' relations -/
def ClsTab (K : Kn) (M : Str → Str → Option Bool) : Prop := ∀ x y b u v, M x y = some b → K.mg x = some u → K.mg y = some v → PySem.W.exmOne K.K u v = some b
section
variable {B : Bs} {X : Cx} {M : Str → Str → Option Bool}
theorem pss_er {X' : Cx} {sts : List Stmt} {g : Er → Addr → GS} {a : Addr} {cls : Value} {d : Option Addr} {K : Kn} (hk : X'.kn = K) (h : ∀ F0 H0 er, ErAt K B.W F0 H0 cls d er → SDs ⟨B.W, F0, H0⟩ X' sts (g er a)) : PSs X' sts (tsH B K g a cls d) :=
  ⟨fun pins s σ H Dn I ⟨F0, H0, er, at_, q⟩ => (h F0 H0 er at_).run.run pins s σ H Dn I (by rw [hk]; exact q)⟩
theorem ClausesOk.hdls {hs : List ExceptHandler} {l : List Cls3} {l' : List Hdl} (ok : ClausesOk B X hs l l') : HdlsOk X hs l' := by
  induction ok with
  | nil => exact .nil
  | plain hg nd hm body r ih => exact .plain ⟨hg, nd, .inl hm⟩ (fun a oe cls d pn zc fs => pss_er rfl fun F0 H0 er z => body a oe cls d pn F0 H0 er zc fs z) ih
  | named hg nd hm hi hl body r ih => exact .named ⟨hg, nd, .inl hm⟩ hi hl (fun a oe cls d pn zc fs => pss_er rfl fun F0 H0 er z => body a oe cls d pn F0 H0 er zc fs z) ih
/-- a clause takes what it is wanted to take -/
theorem ClausesOk.takes {hs : List ExceptHandler} {l : List Cls3} {l' : List Hdl} (ok : ClausesOk B X hs l l') {F F' H' : Hp} {Ed : Ed} {Dn : Ends} {Wout : WX} {out : Er → Prop} {cls : Value} {d : Option Addr} {er : Er} {s : L2.St} (hM : ClsTab X.kn M)
    (k : EdOk B X.kn F Ed Dn) (g : Grow B.W B.F B.H F' H') (dk : DeckIn B.W F' H') (rp : RepEr X.kn F' H' cls d er) (hl : s.length = X.N.length)
    (ho : out er → Wout cls d s H') (w : hdG M X.N.length out Ed.rt l er) : wH X.K Wout Dn l' cls d s H' := by
  have ends : ∀ i : Option Nat, EdOk ⟨B.W, F', H'⟩ X.kn F' { nx := fun _ => False, rt := Ed.rt, bk := fun _ => False, ct := fun _ => False } (match i with | none => Dn | some i => goneD Dn i) := fun i =>
    ⟨fun _ _ _ _ _ _ z => z.elim, fun dd v F2 H2 g2 dk2 r2 q => by
      have := k.rt dd v F2 H2 (g.trans g2) dk2 r2 q
      cases i <;> exact this, fun _ _ _ _ _ _ z => z.elim, fun _ _ _ _ _ _ z => z.elim⟩
  induction ok with
  | nil => exact ho w
  | @plain x cv gg b₀ suite np pos' hs l l' hg nd hm body r ih =>
    obtain ⟨b, hb, q⟩ := w
    refine ⟨b, hM _ _ _ _ _ hb rp.1 hm, fun e a na => ?_, fun e => ?_⟩
    · subst e
      have q1 := q a
      have R := rel_no (W := B.W) (K := X.kn) g.fh dk s
      rw [hl] at R
      exact ⟨F', H', er, ⟨g.fh, dk, rp⟩, _, F', _, R, q1, ends none⟩
    · subst e
      exact ih q
  | @named x n i cv gg b₀ suite np pos' hs l l' hg nd hm hi hll body r ih =>
    obtain ⟨b, hb, q⟩ := w
    refine ⟨b, hM _ _ _ _ _ hb rp.1 hm, fun e a na => ?_, fun e => ?_⟩
    · subst e
      have q1 := q a
      have R := (rel_no (W := B.W) (K := X.kn) g.fh dk s).set (i := i) (v := .ref a) (x := .opq (.ref a)) (.opq _)
      rw [hl] at R
      exact ⟨F', H', er, ⟨g.fh, dk, rp⟩, _, F', _, R, q1, ends (some i)⟩
    · subst e
      exact ih q
/-- try: body, except ..: clauses, each of which returns -/
@[simp] def gTry (M : Str → Str → Option Bool) (n : Nat) (R : Er → Prop) (tb : (Er → Prop) → GS) (l : List Cls3) (E : Ed) (σ : List SV) : Prop := tb (hdG M n R E.rt l) E σ
theorem sd_try {body : List Stmt} {h₀ : ExceptHandler} {hs : List ExceptHandler} {l : List Cls3} {l' : List Hdl} {tb : (Er → Prop) → GS} {pos : Pos} {R : Er → Prop} {E : XK} (hst : X.stack = X.env :: X.outer) (hf : X.env.frame = some X.env.locals) (hN : X.N.Nodup)
    (tk : Takes X (fun c o _ H => E c o H)) (hE : FinE B.W X.kn B.F B.H R E) (hM : ClsTab X.kn M)
    (hb : ∀ (pn : List (Addr × Obj)) (xe : Value → Shared → Prop) (E' : XK) (R' : Er → Prop), Passes (L2.CX X.prog X.w) (X.tr pn xe) E' → FinE B.W X.kn B.F B.H R' E' → PassesOwn (model X.prog X.w) X.A X.env xe → SDs B (X.tr pn xe) body (tb R'))
    (hh : ClausesOk B X (h₀ :: hs) l l') : SD B X (.Try body (h₀ :: hs) [] [] pos) (gTry M X.N.length R tb l) :=
  ⟨ps_imp (ps_try_h (Wout := fun c o _ H => E c o H) (tb := fun W Dn s H => ∃ R', FinE B.W X.kn B.F B.H R' (fun c o H => ∀ s : L2.St, s.length = X.N.length → W c o s H) ∧ LS B X.kn (tb R') Dn s H) hst hf hN tk
      (fun W pn xe tk' po => ⟨fun pins s σ H Dn I ⟨R', fin, q⟩ => (hb pn xe _ R' (fun pins σ H s e s' I c => tk' e s' (XE.of_call I (fun cls d H' h => h σ I.len) c)) fin po).run.run pins s σ H Dn I q⟩) hh.hdls)
    fun Dn s H ⟨σ, F, Ed, Rl, q, k⟩ => ⟨hdG M X.N.length R Ed.rt l, fun er w F' H' c o g dk rp s' hl =>
      hh.takes hM k g dk rp hl (fun ro => hE er ro F' H' c o g dk rp) w, σ, F, Ed, Rl, q, k⟩⟩
end
/-! ### within a clause: the error's field -/
/-- what the written part says of a class whose errors' fields are read -/
structure ErGet (K : PySem.W.Frag) (C : Addr) (fld : Str) : Prop where
  ga : PySem.W.findIn K (.ref C) "__getattribute__" = some (some (.builtin "BaseException.__getattribute__"))
  gg : PySem.W.findIn K (.ref C) "__getattr__" = some none
  exC : PySem.W.subIn K (.ref C) (.type "BaseException") = some true
  hdC : PySem.W.hasDictIn K C = true
  noN : PySem.W.findIn K (.ref C) fld = some none
/-- the classes nm of which known is true may be asked for fld -/
def GetTab (K : Kn) (known : Str → Bool) (fld : Str) : Prop := ∀ nm, known nm = true → ∃ C, K.mg nm = some (.ref C) ∧ ErGet K.K C fld
def gErF (known : Str → Bool) (fld : Str) (i : Nat) (er : Er) (a : Addr) (σ : List SV) (Q : D → Prop) : Prop := σ[i]? = some (.d (.opq (.ref a))) ∧ known er.nm = true ∧ ∃ x, er.fs.lookup fld = some x ∧ Q x
theorem repFs_look {K : Kn} {F : Hp} {f : Str} {x : D} : ∀ {vs : List (Str × V)} {ds : List (Str × D)}, RepFs K F vs ds → ds.lookup f = some x → ∃ v, vs.lookup f = some v ∧ Rep K F v x
  | _, _, .nil, h => by simp at h
  | (k, v) :: vs, (_, d) :: ds, .cons r t, h => by
    rw [List.lookup_cons] at h ⊢
    cases e : f == k with
    | true =>
      rw [e] at h
      cases h
      exact ⟨v, rfl, r⟩
    | false =>
      rw [e] at h
      exact repFs_look t h
section
variable {X : Cx} {W : WT} {F0 H0 : Hp} {cls : Value} {d : Option Addr} {er : Er} {a : Addr} {oe : Obj} {pn : List (Addr × Obj)} {known : Str → Bool} {fld x : Str} {i : Nat} {pos p : Pos}
theorem ed_erF (at_ : ErAt X.kn W F0 H0 cls d er) (zc : Zc cls d oe) (fields : ∃ vs, oe.data = .fields vs) (G : GetTab X.kn known fld) (he : PE (X.suite a ((a, oe) :: pn)) (.Name x p) (tVar i)) (hb : attributeBase (.Name x p) fld X.env (eval (.Name x p) X.env) = eval (.Name x p) X.env := by rfl) :
    ED ⟨W, F0, H0⟩ (X.suite a ((a, oe) :: pn)) (.Attribute (.Name x p) fld pos) (gErF known fld i er a) :=
  ⟨⟨fun pins s σ H Q I ⟨σd, F, Qd, R, ⟨sl, kn, y, hy, q⟩, k⟩ => by
    obtain ⟨C, gC, T⟩ := G _ kn
    obtain ⟨eC, hf, _⟩ := at_.rep
    have ec : cls = .ref C := Option.some.inj (eC.symm.trans gC)
    subst ec
    have ne : er.fs ≠ [] := fun z => by
      rw [z] at hy
      cases hy
    obtain ⟨dx, vs, rfl, at_dx, rf⟩ := hf ne
    obtain ⟨v, hv, rv⟩ := repFs_look rf hy
    obtain ⟨w0, hs, rw0⟩ := R.dat sl
    cases rw0
    have notW : ¬ InW W dx := xd_notW at_.dk at_dx
    refine attr_of hb (thn (he.run pins s σ H (fun w G1 => w = .ref a ∧ G1 = H) I ⟨_, hs, rfl, rfl⟩) fun u s1 ⟨w, H1, I1, rx, ew, eH⟩ => ?_)
    subst ew eH
    obtain rfl : u = Value.ref a := rx
    have st : H1 dx = some (.xd vs) := R.base.hh dx _ at_dx notW (by intro _ z; cases z)
    obtain ⟨held, _⟩ := I1.pin (a, oe) (List.mem_append_left _ List.mem_cons_self)
    obtain ⟨fv, hd⟩ := fields
    obtain ⟨mA, hns, hr⟩ := (show ObjOk X.prog X.w H1 s1.heap dx (.xd vs) from I1.hok dx _ st)
    obtain ⟨od, ho, hl⟩ := lookIn_ns hns
    obtain ⟨u, hu, ru⟩ := RelO.some_of (v := v) (o := mA fld) (by rw [← hv]; exact hr fld)
    have J : PySem.W.InstAt s1.heap a oe C (some od) := ⟨held, zc.1, by unfold PySem.W.notCls; rw [hd] <;> rfl, by rw [zc.2]; exact ho⟩
    exact HandSPX.exc_get I1.kIn J T.ga T.gg T.exC (PySem.W.findObj_own T.hdC T.noN rfl (by rw [hl, hu])) (handed_of ru) ⟨v, H1, I1.tok _, ru, k _ q F H1 v (Grow.refl R.ex) R.deck (rv.mono R.base.ff)⟩⟩⟩
end
end ND

/-! ND15: isinstance of a caught error that has a dict -/
namespace ND
open PySem PySem.Spec PySem.W PySem.Calls PyProof.Rows
section
variable {prog : Program} {w : World} {A : Around} {E : Value → Shared → Prop} {K : Frag} {x D : Addr} {ox : Obj} {od : Option Obj}
end
end ND

namespace ND
open PySem PySem.Spec L2
open PyProof.Rows (envOfC)
section
variable {X : Cx} {W : WT} {F0 H0 : Hp} {cls : Value} {d : Option Addr} {er : Er} {a : Addr} {oe : Obj} {pn : List (Addr × Obj)} {M : Str → Str → Option Bool} {x c : Str} {i : Nat} {pos p p2 p3 : Pos}
end
end ND

/-! ND16: more built-in functions: sum, all, any, tuple, list, sorted, str -/
namespace ND
open PySem PySem.Spec L2
open PyProof.Rows (envOfC)
section
variable {prog : Program} {w : World} {A : Around} {E : Value → Shared → Prop} {s : Shared} {l : Addr} {its : List Value} {ns : List Int} {Q : Value → Shared → Prop}
end
section
variable {B : Bs} {X : Cx}
/-- the integers of a list of data -/
def intsOf : List D → Option (List Int)
  | [] => some []
  | .int i :: r => (intsOf r).map (i :: ·)
  | _ :: _ => none
@[simp] theorem intsOf_ints : ∀ ns : List Int, intsOf (ns.map D.int) = some ns
  | [] => rfl
  | n :: ns => by simp [intsOf, intsOf_ints ns]
def sumD : List D → (D → Prop) → Prop
  | [.lst xs], Q => ∃ ns, intsOf xs = some ns ∧ Q (.int ns.sum)
  | [.tup xs], Q => ∃ ns, intsOf xs = some ns ∧ Q (.int ns.sum)
  | _, _ => False
/-- the bools of a list of data -/
def blsOf : List D → Option (List Bool)
  | [] => some []
  | .bl i :: r => (blsOf r).map (i :: ·)
  | _ :: _ => none
theorem blsOf_map : ∀ {ds : List D} {ns : List Bool}, blsOf ds = some ns → ds = ns.map D.bl
  | [], ns, h => by
    cases h
    rfl
  | .bl i :: r, ns, h => by
    simp only [blsOf, Option.map_eq_some_iff] at h
    obtain ⟨m, h1, rfl⟩ := h
    rw [blsOf_map h1]
    rfl
@[simp] theorem blsOf_bls : ∀ ns : List Bool, blsOf (ns.map D.bl) = some ns
  | [] => rfl
  | n :: ns => by simp [blsOf, blsOf_bls ns]
theorem reps_of_bls {K : Kn} {F : Hp} : ∀ {vs : List V} {ns : List Bool}, Reps K F vs (ns.map D.bl) → vs = ns.map V.bl
  | _, [], .nil => rfl
  | _, n :: ns, .cons (.bl _) t => by rw [List.map_cons, reps_of_bls t]
def allD : List D → (D → Prop) → Prop
  | [.lst xs], Q => ∃ bs, blsOf xs = some bs ∧ Q (.bl (bs.all id))
  | _, _ => False
theorem c_all (hc : X.calm = true) : CallR X (.builtin "all") (LCa B X.kn allD) := callR_by fun vs H Q ⟨F, ds, Qd, e, dk, r, q, k⟩ => by
  unfold allD at q
  split at q
  · obtain ⟨v, rfl, r1⟩ := rb1 r
    obtain ⟨bs, h1, h2⟩ := q
    obtain ⟨a, us, rfl, st, rs⟩ := r1.lst e
    rw [blsOf_map h1] at rs
    rw [reps_of_bls rs] at st
    exact ⟨_, cr_all hc, a, bs, rfl, SqL.of st, k.here e dk h2 (.bl _)⟩
  · exact q.elim
def tupleD : List D → (D → Prop) → Prop
  | [.lst xs], Q => Q (.tup xs)
  | [.tup xs], Q => Q (.tup xs)
  | _, _ => False
theorem c_tuple : CallR X (.type "tuple") (LCa B X.kn tupleD) := callR_by fun vs H Q ⟨F, ds, Qd, e, dk, r, q, k⟩ => by
  unfold tupleD at q
  split at q
  · obtain ⟨v, rfl, r1⟩ := rb1 r
    obtain ⟨a, us, rfl, st, rs⟩ := r1.lst e
    exact ⟨_, call_tuple_of, a, us, rfl, .inl ⟨SqL.of st, fun p hp => k.frz e dk q hp (.tup (SqT.of upd_same) (rs.mono (same_new (e.free hp))))⟩⟩
  · obtain ⟨v, rfl, r1⟩ := rb1 r
    obtain ⟨a, us, rfl, sf, st, rs⟩ := r1.tup e
    exact ⟨_, call_tuple_of, a, us, rfl, .inr ⟨st, k.here e dk q (.tup sf rs)⟩⟩
  · exact q.elim
/-- a built-in function that gives a new list -/
def LCf (B : Bs) (K : Kn) (g : List D → (List D → Prop) → Prop) : List V → Hp → VK → Prop := fun vs H Q => ∃ F ds Qd, Same F H ∧ DeckIn B.W F H ∧ RepBs B.W K F H vs ds ∧ g ds Qd ∧ FinF B K F H Qd Q
@[simp] def gBltF (g : List D → (List D → Prop) → Prop) (fs : GA) (σ : List SV) (Q : List D → Prop) : Prop := fs σ fun ds => g ds Q
theorem tcbF_of {s : L2.St} {H : Hp} {Q : VK} {g : List D → (List D → Prop) → Prop} {fs : GA} (h : LF B X.kn (gBltF g fs) s H Q) : tCB (LCf B X.kn g) (LAB B X.kn fs) s H Q := by
  obtain ⟨σ, F, Qd, R, q, k⟩ := h
  exact ⟨σ, F, _, R, q, fun ds qd F1 H1 vs g1 d1 r1 => ⟨F1, ds, Qd, g1.fh, d1, r1, qd, k.more g1⟩⟩
variable {x : Str} {p pos : Pos} {e : Expr} {es : List Expr} {fs : GA} {T id : String} {g : List D → (List D → Prop) → Prop}
theorem fd_callB (hc : CallR X (.builtin id) (LCf B X.kn g)) (hg : Gl X x) (hm : X.mg x = none) (hv : bootBuiltins x = some (.builtin id)) (ha : ABD B X (e :: es) fs) (hn : x ≠ "__name__" := by decide) (hdb : (x == ("__debug__" : Str)) = false := by decide)
    (he : starEach (e :: es) X.env = (false, eval e X.env) :: starEach es X.env := by rfl) (hpl : (backTo pos (starEach es X.env)).any (·.1) = false := by rfl) : FD B X (.Call (.Name x p) (e :: es) [] pos) (gBltF g fs) :=
  ⟨pe_imp (pe_callB hc hg hm hv ha.run hn hdb he hpl) fun s H Q h => tcbF_of h⟩
/-- a division that stays with the plain way: the divisor short, or the dividend short -/
def DivPl (i j : Int) : Prop := j.natAbs.log2 < 9000 ∨ i.natAbs.log2 < 13500
theorem DivPl.no {i j : Int} (h : DivPl i j) : Builtin.divisionGoesByPylong i j = false := by
  rcases h with h | h
  · exact PyProof.noPylong_of_log2 h
  · show (decide ((if j == 0 then 0 else j.natAbs.log2 / 30 + 1) > 300) && decide ((if i == 0 then 0 else i.natAbs.log2 / 30 + 1) > (if j == 0 then 0 else j.natAbs.log2 / 30 + 1) + 150)) = false
    have k : (if i == 0 then 0 else i.natAbs.log2 / 30 + 1) ≤ 450 := by
      split
      · omega
      · omega
    generalize (if j == 0 then 0 else j.natAbs.log2 / 30 + 1) = y
    by_cases hy : y > 300
    · rw [decide_eq_false (fun z => by omega : ¬ _ > y + 150), Bool.and_false]
    · rw [decide_eq_false hy, Bool.false_and]
/-- floor division by any divisor but zero -/
def fdivA : D → D → (D → Prop) → Prop
  | .int i, .int j, Q => j ≠ 0 ∧ DivPl i j ∧ Q (.int (i.fdiv j))
  | _, _, _ => False
@[simp] theorem fdivA_i (i j : Int) (Q : D → Prop) : fdivA (.int i) (.int j) Q = (j ≠ 0 ∧ DivPl i j ∧ Q (.int (i.fdiv j))) := rfl
theorem op_fdivA : OpR X (binaryOp .FloorDiv) (rI (fun i j => j ≠ 0 ∧ DivPl i j) fun i j => .int (i.fdiv j)) := opI fun i j _ _ _ _ _ hc q => PyProof.Rows.floordiv_int hc.1 q (.inl hc.2.no)
theorem o_fdivA : OpR X (binaryOp .FloorDiv) (LO2 B X.kn fdivA) := opR_by fun v u H Q ⟨F, x, y, Qd, e, dk, r1, r2, q, k⟩ => by
  unfold fdivA at q
  split at q
  · exact ⟨_, op_fdivA, _, _, r1.int, r2.int, ⟨q.1, q.2.1⟩, k.here e dk q.2.2 (.int _)⟩
  · exact q.elim
end
end ND

/-! ND17: targets within targets; a statement t = e for any such target -/
namespace ND
open PySem PySem.Spec L2
open PyProof.Rows (envOfC)
variable {B : Bs} {X : Cx} {e t : Expr} {ts : List Expr} {pos : Pos} {fa : GE}
abbrev GGs := List D → List SV → (List SV → Prop) → Prop
@[simp] def ggNil (_ : List D) (σ : List SV) (Q : List SV → Prop) : Prop := Q σ
@[simp] def ggCons (g : GG) (h : GGs) : List D → List SV → (List SV → Prop) → Prop
  | d :: ds, σ, Q => g d σ fun σ' => h ds σ' Q
  | [], _, _ => False
@[simp] def ggT (n : Nat) (h : GGs) (d : D) (σ : List SV) (Q : List SV → Prop) : Prop := unT n d fun ds => h ds σ Q
@[simp] def gSetG (gt : GG) (fa : GE) (E : Ed) (σ : List SV) : Prop := fa σ fun d => gt d σ E.nx
/-! classes: what an except clause asks -/
theorem exm_of {K : PySem.W.Frag} {C D : Addr} {b : Bool} (hc : (PySem.W.clsIn K D).isSome = true) (hs : PySem.W.subIn K (.ref D) (.type "BaseException") = some true) (ht : PySem.W.typeIn K (.ref D) = some (.type "type")) (hr : PySem.W.subIn K (.ref C) (.ref D) = some b) : PySem.W.exmOne K (.ref C) (.ref D) = some b := by
  have h1 : PySem.W.kitCls K (.ref C) (.ref D) = some b := by
    show (if ((PySem.W.clsIn K D).isSome && PySem.W.typeIn K (.ref D) == some (.type "type")) = true then PySem.W.subIn K (.ref C) (.ref D) else none) = _
    have e : ((PySem.W.clsIn K D).isSome && PySem.W.typeIn K (.ref D) == some (.type "type")) = true := by rw [hc, ht, Bool.true_and, beq_iff_eq]
    rw [if_pos e]
    exact hr
  unfold PySem.W.exmOne
  rw [if_pos (by rw [hs]; exact beq_self_eq_true _)]
  exact h1
end ND

/-! ND18: repr of integers of up to 4300 digits -/
namespace ND
open PySem PySem.Spec L2
open PyProof.Rows (envOfC)
section
variable {prog : Program} {w : World} {A : Around} {E : Value → Shared → Prop} {s : Shared} {i : Int} {t : Tok} {h₀ : Heap}
set_option maxRecDepth 100000 in
/-- an integer's own __repr__ -/
theorem big_repr {Q : Value → Shared → Prop} (hn : s.heap.NoDigits) (hb : i.natAbs < 10 ^ 4300) (q : Q (.str (toString i) s.toks) { s with toks := s.toks + 1 }) :
    wpAny (model prog w) A (call (.builtin "int.__repr__") [.int i t]) Q E s := by
  refine wpAny_call_entry F.slot_int_repr (typeIs_int s i t) F.entry_int_repr ?_ (F.args_int_repr_1 _)
  unfold Builtin.«int.__repr__»
  show wpAny _ _ (do let r ← Builtin.overDigitLimit? i; _) _ _ s
  refine wpAny_bind (PyProof.Rows.overDigitLimit_any hn (fun hl => wpAny_bind (wpAny_mkStr (wpAny_pure ⟨_, rfl, q⟩) (int_text_fits10 hl))) fun hg => ?_)
  exact absurd hb (Nat.not_lt.mpr hg)
mutual
/-- data whose repr can be told: integers below 10^4300 -/
def bigOk : PyData → Bool
  | .int i => decide (i.natAbs < 10 ^ 4300)
  | .list xs | .tuple xs => bigAll xs
  | .dict kvs => bigKv kvs
  | _ => true
def bigAll : List PyData → Bool
  | [] => true
  | d :: ds => bigOk d && bigAll ds
def bigKv : List (PyData × PyData) → Bool
  | [] => true
  | (k, d) :: ds => bigOk k && bigOk d && bigKv ds
end
theorem bigKv_split : ∀ kvs : List (PyData × PyData), bigKv kvs = true → bigAll (kvs.map (·.1)) = true ∧ bigAll (kvs.map (·.2)) = true
  | [], _ => ⟨rfl, rfl⟩
  | (k, d) :: r, h => by
    simp only [bigKv, Bool.and_eq_true] at h
    obtain ⟨h1, h2⟩ := bigKv_split r h.2
    simp only [List.map_cons, bigAll, Bool.and_eq_true]
    exact ⟨⟨h.1.1, h1⟩, h.1.2, h2⟩
/-- no dict among as is sys.modules -/
def SafeD (h : Heap) (as : List Addr) : Prop := ∀ a ∈ as, ∀ (o : Obj) (es : Array DictEntry) (n : Nat), h.get? a = some o → o.data = .dict es n → (a == sysModules) = false
theorem SafeD.sub {h : Heap} {as bs : List Addr} (s : SafeD h as) (e : ∀ a ∈ bs, a ∈ as) : SafeD h bs := fun a m => s a (e a m)
theorem big_one (hn : h₀.NoDigits) (hb : i.natAbs < 10 ^ 4300) (as : List Addr) (n : Nat) : ReprK prog w as h₀ n (.int i t) (toString i) := fun base hz A g E s Q hg _ hu hk q => by
  have hz' : base ≤ sizeLine := by omega
  rw [pyReprUnder_leaf (v := .int i t) hz' (fun _ e => nomatch e)]
  unfold pyRepr
  exact wpAny_bind (wpAny_pyReprObj_slot (by omega) (typeIs_int s i t) F.slot_int_repr.toG (big_repr (hn.keeps hk) hb ⟨_, _, rfl, wpAny_pure (q s.heap _ fun _ _ e => e)⟩))
mutual
theorem big_reads (hn : h₀.NoDigits) : ∀ {v : Value} {d : PyData} {as : List Addr}, Reads h₀ v d as → SafeD h₀ as → bigOk d = true → d.shown.length ≤ sizeLine → ∃ bs, ReadAtMost h₀ d.depth bs ∧ ReprK prog w bs h₀ d.depth v d.shown
  | _, _, _, .int i t, _, o, _ => ⟨[], nofun, by simp only [PyData.shown]; exact big_one hn (by simp only [bigOk] at o; exact of_decide_eq_true o) _ _⟩
  | _, _, _, .none, _, _, z => ReprK.of_reads .none rfl (fun e => by simp [PyData.hasDict] at e) z
  | _, _, _, .bool b, _, _, z => ReprK.of_reads (.bool b) rfl (fun e => by simp [PyData.hasDict] at e) z
  | _, _, _, .str x t, _, _, z => ReprK.of_reads (.str x t) rfl (fun e => by simp [PyData.hasDict] at e) z
  | _, _, _, .dict (a := a) (es := es) (kvs := kvs) g1 g2 g3 g4 g5, sf, o, z => by
    have z1 : (dictText (PyData.shownKv kvs)).length ≤ sizeLine := by simpa only [PyData.shown] using z
    obtain ⟨o1, o2⟩ := bigKv_split kvs (by simpa only [bigOk] using o)
    obtain ⟨b1, l1, k1⟩ := bigs_reads hn g4 (sf.sub fun _ m => List.mem_cons_of_mem _ (List.mem_append_left _ m)) o1 fun t m => by
      obtain ⟨p, mp, lp⟩ := PyData.shownKv_key_le kvs t m
      exact Nat.le_trans lp (Nat.le_trans (dictText_mem_le mp) z1)
    obtain ⟨b2, l2, k2⟩ := bigs_reads hn g5 (sf.sub fun _ m => List.mem_cons_of_mem _ (List.mem_append_right _ m)) o2 fun t m => by
      obtain ⟨p, mp, lp⟩ := PyData.shownKv_val_le kvs t m
      exact Nat.le_trans lp (Nat.le_trans (dictText_mem_le mp) z1)
    have rd := Reads.dict g1 g2 g3 g4 g5
    have low : ReadAtMost h₀ (PyData.depthKv kvs) (b1 ++ b2) := (l1.mono (PyData.depthAll_keys_le kvs)).append (l2.mono (PyData.depthAll_vals_le kvs))
    refine ⟨_ :: (b1 ++ b2), .cons rd (by simp only [PyData.depth]; omega) low, ?_⟩
    simp only [PyData.depth, PyData.shown, PyData.shownKv_eq]
    exact .dict g1 g2 g3 (sf a (List.mem_append_left _ List.mem_cons_self) _ _ _ g1 g3) (not_mem_of_deeper rd (by simp only [PyData.depth]; omega) low)
      (.of_two es.toList _ _ (k1.more_le (fun _ => List.mem_append_left _) (PyData.depthAll_keys_le kvs)) (k2.more_le (fun _ => List.mem_append_right _) (PyData.depthAll_vals_le kvs)))
  | _, _, _, .tuple (xs := xs) g1 g2 g3 g4, sf, o, z => by
    have z1 : (tupleText (PyData.shownAll xs)).length ≤ sizeLine := by simpa only [PyData.shown] using z
    obtain ⟨bs, le, ks⟩ := bigs_reads hn g4 sf (by simpa [bigOk] using o) fun t m => Nat.le_trans (tupleText_mem_le m) z1
    have rd := Reads.tuple g1 g2 g3 g4
    refine ⟨_ :: bs, .cons rd (by simp only [PyData.depth]; omega) le, ?_⟩
    simp only [PyData.depth, PyData.shown]
    exact ReprK.tuple g1 g2 g3 (not_mem_of_deeper rd (by simp only [PyData.depth]; omega) le) ks
  | _, _, _, .list (vs := vs) (xs := xs) g1 g2 g3 g4, sf, o, z => by
    have z1 : (listText (PyData.shownAll xs)).length ≤ sizeLine := by simpa only [PyData.shown] using z
    obtain ⟨bs, le, ks⟩ := bigs_reads hn g4 (sf.sub fun _ => List.mem_cons_of_mem _) (by simpa [bigOk] using o) fun t m => Nat.le_trans (listText_mem_le m) z1
    have rd := Reads.list g1 g2 g3 g4
    refine ⟨_ :: bs, .cons rd (by simp only [PyData.depth]; omega) le, ?_⟩
    simp only [PyData.depth, PyData.shown]
    have nm := not_mem_of_deeper rd (by simp only [PyData.depth]; omega) le
    rcases vs with ⟨_ | ⟨y, ys⟩⟩
    · cases (show ReadsAll h₀ [] xs _ from g4)
      simp only [PyData.shownAll, listText_nil]
      exact .listEmpty g1 g2 g3
    · exact .list g1 g2 g3 nm (by simpa using ks.length_eq) fun j y e => ks.item j y (by simpa using e)
theorem bigs_reads (hn : h₀.NoDigits) : ∀ {vs : List Value} {ds : List PyData} {as : List Addr}, ReadsAll h₀ vs ds as → SafeD h₀ as → bigAll ds = true → (∀ t ∈ PyData.shownAll ds, t.length ≤ sizeLine) →
    ∃ bs, ReadAtMost h₀ (PyData.depthAll ds) bs ∧ ReprAllK prog w bs h₀ (PyData.depthAll ds) vs (PyData.shownAll ds)
  | _, _, _, .nil, _, _, _ => ⟨[], nofun, by simp only [PyData.shownAll]; exact .nil⟩
  | _, _, _, .cons (d := d) (ds := ds) r rs, sf, o, z => by
    simp only [bigAll, Bool.and_eq_true] at o
    simp only [PyData.shownAll, List.mem_cons, forall_eq_or_imp] at z
    obtain ⟨b1, l1, k1⟩ := big_reads hn r (sf.sub fun _ => List.mem_append_left _) o.1 z.1
    obtain ⟨b2, l2, k2⟩ := bigs_reads hn rs (sf.sub fun _ => List.mem_append_right _) o.2 z.2
    simp only [PyData.depthAll, PyData.shownAll]
    exact ⟨b1 ++ b2, (l1.mono (Nat.le_max_left _ _)).append (l2.mono (Nat.le_max_right _ _)),
      .cons ((k1.more fun b => List.mem_append_left _).level_le (Nat.le_max_left _ _)) (k2.more_le (fun b => List.mem_append_right _) (Nat.le_max_right _ _))⟩
end
def isDct : PyData → Bool
  | .dict _ => true
  | _ => false
/-- repr of a tuple or a list -/
theorem repr_big {a : Addr} {d : PyData} {as : List Addr} {Q : Value → Shared → Prop} (hn : s.heap.NoDigits) (r : Reads s.heap (.ref a) d as) (sf : SafeD s.heap as) (nd : isDct d = false) (o : bigOk d = true) (z : d.shown.length ≤ sizeLine) (hg : A.guards = some []) (hu : A.units + (d.depth + 1) < cLine)
    (q : ∀ h' u tk, (∀ b o, s.heap.get? b = some o → h'.get? b = some o) → Q (.str d.shown u) { s with heap := h', toks := tk }) : wpAny (model prog w) A (call (.builtin "repr") [.ref a]) Q E s := by
  have hk0 : ∀ b o, s.heap.get? b = some o → s.heap.get? b = some o := fun _ _ e => e
  cases r with
  | tuple g1 g2 g3 g4 =>
    rename_i ob vs n xs
    have z1 : (tupleText (PyData.shownAll xs)).length ≤ sizeLine := by simpa only [PyData.shown] using z
    obtain ⟨bs, le, ks⟩ := bigs_reads (prog := prog) (w := w) hn g4 sf (by simpa [bigOk] using o) fun t m => Nat.le_trans (tupleText_mem_le m) z1
    have nm := not_mem_of_deeper (.tuple g1 g2 g3 g4) (by simp only [PyData.depth]; omega) le
    simp only [PyData.depth] at hu
    simp only [PyData.shown] at q
    exact call_repr_slot (by omega) ⟨ob, g1, g2⟩ F.slot_tuple_repr (call_tuple_reprK g1 g2 g3 nm ks hg (fun b _ => Clear.nil b) (by show A.units + 1 + _ < cLine; omega) hk0 (fun h' u tk k => ⟨_, _, rfl, q h' u tk k⟩) z1)
  | list g1 g2 g3 g4 =>
    rename_i ob vs n xs bs₀
    have z1 : (listText (PyData.shownAll xs)).length ≤ sizeLine := by simpa only [PyData.shown] using z
    obtain ⟨bs, le, ks⟩ := bigs_reads (prog := prog) (w := w) hn g4 (sf.sub fun _ => List.mem_cons_of_mem _) (by simpa [bigOk] using o) fun t m => Nat.le_trans (listText_mem_le m) z1
    have nm := not_mem_of_deeper (.list g1 g2 g3 g4) (by simp only [PyData.depth]; omega) le
    simp only [PyData.depth] at hu
    simp only [PyData.shown] at q
    refine call_repr_slot (by omega) ⟨ob, g1, g2⟩ F.slot_list_repr.toG ?_
    rcases vs with ⟨_ | ⟨y, ys⟩⟩
    · cases (show ReadsAll s.heap [] xs _ from g4)
      simp only [PyData.shownAll, listText_nil] at q
      exact call_list_repr_empty ⟨ob, g1, g2⟩ g1 g3 ⟨_, _, rfl, q s.heap _ _ fun _ _ e => e⟩
    · exact call_list_reprK g1 g2 g3 nm (by simpa using ks.length_eq) (fun j y e => ks.item j y (by simpa using e)) hg (fun b _ => Clear.nil b) (by show A.units + 1 + _ < cLine; omega) hk0 (fun h' u tk k => ⟨_, _, rfl, q h' u tk k⟩) z1
  | dict => cases nd
end
section
variable {B : Bs} {X : Cx}
/-! data with dicts in it, no object within, at most n deep -/
mutual
def rp : Nat → D → Bool
  | _, .non => true
  | _, .bl _ => true
  | _, .int _ => true
  | _, .str x => PyData.strOk x
  | 0, .tup _ => false
  | 0, .lst _ => false
  | 0, .dic _ => false
  | n + 1, .tup xs => rps n xs
  | n + 1, .lst xs => rps n xs
  | n + 1, .dic xs => rpk n xs
  | _, .obj _ _ => false
  | _, .opq _ => false
def rps : Nat → List D → Bool
  | _, [] => true
  | n, x :: xs => rp n x && rps n xs
def rpk : Nat → List (Key × D) → Bool
  | _, [] => true
  | n, (.inl _, x) :: xs => rp n x && rpk n xs
  | n, (.inr k, x) :: xs => PyData.strOk k && rp n x && rpk n xs
end
mutual
theorem rp_depth : ∀ (n : Nat) (d : D), rp n d = true → (toPy d).depth ≤ n
  | n, .non, _ => by simp [toPy, PyData.depth]
  | n, .bl b, _ => by simp [toPy, PyData.depth]
  | n, .int b, _ => by simp [toPy, PyData.depth]
  | n, .str x, h => by simp [toPy, PyData.depth]
  | 0, .tup xs, h => by simp [rp] at h
  | 0, .lst xs, h => by simp [rp] at h
  | 0, .dic xs, h => by simp [rp] at h
  | n + 1, .tup xs, h => by
    have h2 := rps_depth n xs (by simpa only [rp] using h)
    simp only [toPy, PyData.depth]
    omega
  | n + 1, .lst xs, h => by
    have h2 := rps_depth n xs (by simpa only [rp] using h)
    simp only [toPy, PyData.depth]
    omega
  | n + 1, .dic xs, h => by
    have h2 := rpk_depth n xs (by simpa only [rp] using h)
    simp only [toPy, PyData.depth]
    omega
  | n, .obj _ _, h => by simp [rp] at h
  | n, .opq _, h => by simp [rp] at h
theorem rps_depth : ∀ (n : Nat) (d : List D), rps n d = true → PyData.depthAll (toPys d) ≤ n
  | n, [], _ => by simp [toPys, PyData.depthAll]
  | n, x :: xs, h => by
    simp only [rps, Bool.and_eq_true] at h
    have h1 := rp_depth n x h.1
    have h2 := rps_depth n xs h.2
    simp only [toPys, PyData.depthAll]
    omega
theorem rpk_depth : ∀ (n : Nat) (d : List (Key × D)), rpk n d = true → PyData.depthKv (toPyK d) ≤ n
  | n, [], _ => by simp [toPyK, PyData.depthKv]
  | n, (.inl k, x) :: xs, h => by
    simp only [rpk, Bool.and_eq_true] at h
    have h1 := rp_depth n x h.1
    have h2 := rpk_depth n xs h.2
    simp only [toPyK, PyData.depthKv, PyData.depth]
    omega
  | n, (.inr k, x) :: xs, h => by
    simp only [rpk, Bool.and_eq_true] at h
    have h1 := rp_depth n x h.1.2
    have h2 := rpk_depth n xs h.2
    simp only [toPyK, PyData.depthKv, PyData.depth]
    omega
end
theorem safe_seq {h : Heap} {a : Addr} {o : Obj} {vs : Array Value} {n : Nat} {as : List Addr} (ho : h.get? a = some o) (hd : o.data = .seq vs n) (s : SafeD h as) : SafeD h (a :: as) := fun b m ob es k e1 e2 => by
  rcases List.mem_cons.mp m with z | z
  · subst z
    rw [ho] at e1
    cases e1
    rw [hd] at e2
    cases e2
  · exact s b z ob es k e1 e2
theorem safe_app {h : Heap} {as bs : List Addr} (s : SafeD h as) (s2 : SafeD h bs) : SafeD h (as ++ bs) := fun b m => (List.mem_append.mp m).elim (s b) (s2 b)
theorem safe_nil {h : Heap} : SafeD h [] := fun _ m => (nomatch m)
section
variable {pins : List (Addr × Obj)} {σ : L2.St} {H F : Hp} {s : Shared}
mutual
theorem rep_reads (I : Inv X pins σ H s) (e : Same F H) : ∀ (n : Nat) (d : D) (v : V) (u : Value), rp n d = true → Rep X.kn F v d → RelV v u → ∃ as, Reads s.heap u (toPy d) as ∧ SafeD s.heap as
  | _, .non, _, _, _, h, r => by cases h; cases r; exact ⟨_, by simp only [toPy]; exact .none, safe_nil⟩
  | _, .bl _, _, _, _, h, r => by cases h; cases r; exact ⟨_, by simp only [toPy]; exact .bool _, safe_nil⟩
  | _, .int _, _, _, _, h, r => by cases h; obtain ⟨t, rfl⟩ := r; exact ⟨_, by simp only [toPy]; exact .int _ _, safe_nil⟩
  | _, .str _, _, _, _, h, r => by cases h; obtain ⟨t, rfl⟩ := r; exact ⟨_, by simp only [toPy]; exact .str _ _, safe_nil⟩
  | 0, .tup _, _, _, p, _, _ => by simp [rp] at p
  | 0, .lst _, _, _, p, _, _ => by simp [rp] at p
  | 0, .dic _, _, _, p, _, _ => by simp [rp] at p
  | n + 1, .tup ds, _, _, p, h, r => by
    cases h with
    | tup h rs =>
      cases r
      obtain ⟨its, rv, ⟨o, ho, hc, m, hd⟩, _⟩ := I.tuple (same_t e h)
      obtain ⟨as, hr, sf⟩ := reps_reads I e n ds _ its (by simpa only [rp] using p) rs rv
      exact ⟨_, by simp only [toPy]; exact .tuple ho hc hd hr, sf⟩
  | n + 1, .lst ds, _, _, p, h, r => by
    cases h with
    | lst h rs =>
      cases r
      obtain ⟨its, rv, ⟨o, m, ho, hc, _, hd⟩, _⟩ := I.list (SqL.of (e _ _ h))
      obtain ⟨as, hr, sf⟩ := reps_reads I e n ds _ its (by simpa only [rp] using p) rs rv
      exact ⟨_, by simp only [toPy]; exact .list ho hc hd hr, safe_seq ho hd sf⟩
  | n + 1, .dic ds, _, _, p, h, r => by
    cases h with
    | dic h rs =>
      cases r
      obtain ⟨_, hS, vs, kv, o, es, ep, ho, hx, hd, _, hp, _⟩ := I.hok _ _ (e _ _ h)
      obtain ⟨as, bs, h1, h2, s1, s2⟩ := repk_reads I e n ds _ vs es.toList (by simpa only [rp] using p) rs kv hp
      refine ⟨_, by simp only [toPy]; exact .dict ho hx.1 hd h1 h2, safe_app (fun b m ob es' k e1 e2 => ?_) s2⟩
      rcases List.mem_cons.mp m with z | z
      · subst z
        exact hS
      · exact s1 b z ob es' k e1 e2
  | _, .obj _ _, _, _, p, _, _ => by simp [rp] at p
  | _, .opq _, _, _, p, _, _ => by simp [rp] at p
theorem reps_reads (I : Inv X pins σ H s) (e : Same F H) : ∀ (n : Nat) (ds : List D) (vs : List V) (us : List Value), rps n ds = true → Reps X.kn F vs ds → Vals vs us → ∃ as, ReadsAll s.heap us (toPys ds) as ∧ SafeD s.heap as
  | _, [], _, _, _, h, r => by cases h; cases r; exact ⟨_, by simp only [toPys]; exact .nil, safe_nil⟩
  | n, d :: ds, _, _, p, h, r => by
    simp only [rps, Bool.and_eq_true] at p
    cases h with
    | cons h1 h2 =>
      cases r with
      | cons r1 r2 =>
        obtain ⟨as, q1, s1⟩ := rep_reads I e n d _ _ p.1 h1 r1
        obtain ⟨bs, q2, s2⟩ := reps_reads I e n ds _ _ p.2 h2 r2
        exact ⟨_, by simp only [toPys]; exact .cons q1 q2, safe_app s1 s2⟩
theorem repk_reads (I : Inv X pins σ H s) (e : Same F H) : ∀ (n : Nat) (ds : List (Key × D)) (vs : List (Key × V)) (us : List (Key × Value)) (es : List DictEntry), rpk n ds = true → RepKs X.kn F vs ds → KV vs us → Pairs (mixKind X.prog X.w) es us →
    ∃ as bs, ReadsAll s.heap (es.map (·.key)) ((toPyK ds).map (·.1)) as ∧ ReadsAll s.heap (es.map (·.val)) ((toPyK ds).map (·.2)) bs ∧ SafeD s.heap as ∧ SafeD s.heap bs
  | _, [], _, _, _, _, h, r, p => by
    cases h
    cases r
    cases p
    exact ⟨_, _, by simp only [toPyK, List.map_nil]; exact .nil, by simp only [toPyK, List.map_nil]; exact .nil, safe_nil, safe_nil⟩
  | n, (.inl k, d) :: ds, _, _, _, q, h, r, p => by
    simp only [rpk, Bool.and_eq_true] at q
    cases h with
    | cons h1 h2 =>
      cases r with
      | @cons _ b _ _ r1 r2 =>
        obtain ⟨bk, bv⟩ := b
        obtain ⟨rfl, rv⟩ := r1
        cases p with
        | cons p1 p2 p3 =>
          obtain ⟨t, ek⟩ := Value.isInt_shape (show Value.isInt k _ = true from p1)
          obtain ⟨as, bs, a1, a2, s1, s2⟩ := repk_reads I e n ds _ _ _ q.2 h2 r2 p3
          obtain ⟨cs, c1, s3⟩ := rep_reads I e n d _ _ q.1 h1 rv
          simp only [toPyK, List.map_cons]
          rw [ek, p2]
          exact ⟨_, _, .cons (.int k t) a1, .cons c1 a2, safe_app safe_nil s1, safe_app s3 s2⟩
  | n, (.inr k, d) :: ds, _, _, _, q, h, r, p => by
    simp only [rpk, Bool.and_eq_true] at q
    cases h with
    | cons h1 h2 =>
      cases r with
      | @cons _ b _ _ r1 r2 =>
        obtain ⟨bk, bv⟩ := b
        obtain ⟨rfl, rv⟩ := r1
        cases p with
        | cons p1 p2 p3 =>
          obtain ⟨t, ek⟩ := Value.isStrOf_shape (show Value.isStrOf k _ = true from p1)
          obtain ⟨as, bs, a1, a2, s1, s2⟩ := repk_reads I e n ds _ _ _ q.2 h2 r2 p3
          obtain ⟨cs, c1, s3⟩ := rep_reads I e n d _ _ q.1.2 h1 rv
          simp only [toPyK, List.map_cons]
          rw [ek, p2]
          exact ⟨_, _, .cons (.str k t) a1, .cons c1 a2, safe_app safe_nil s1, safe_app s3 s2⟩
end
theorem repB_reads (I : Inv X pins σ H s) (e : Same F H) {d : D} {v : V} {u : Value} {W : WT} (p : rp 64 d = true) (h : RepB W X.kn F H v d) (r : RelV v u) (nd : isDct (toPy d) = false) : ∃ as, Reads s.heap u (toPy d) as ∧ SafeD s.heap as := by
  rcases h with h | ⟨a, ds, vs, rfl, rfl, _, h, rs⟩ | ⟨a, ds, vs, rfl, rfl, _, h, rs⟩
  · exact rep_reads I e 64 d v u p h r
  · cases r
    obtain ⟨its, rv, ⟨o, m, ho, hc, _, hd⟩, _⟩ := I.list (SqL.of h)
    obtain ⟨as, hr, sf⟩ := reps_reads I e 63 ds _ its (by simpa only [rp] using p) rs rv
    exact ⟨_, by simp only [toPy]; exact .list ho hc hd hr, safe_seq ho hd sf⟩
  · simp only [toPy, isDct] at nd
    cases nd
end
/-- the written part says that no limit of digits is set -/
structure Dig (K : PySem.W.Frag) : Prop where
  ok : PySem.W.nsOkIn K cStatics = true
  no : PySem.W.nsIn K cStatics "sys.int_max_str_digits" = some none
theorem Dig.at {K : PySem.W.Frag} {h : Heap} (d : Dig K) (X : K.In h) : h.NoDigits := ⟨h.nsMap cStatics, .of_isNs (PySem.W.isNs_of_in X d.ok), PySem.W.nsMap_none_of_in X d.ok d.no⟩
def reprB : List D → (D → Prop) → Prop
  | [x], Q => rp 64 x = true ∧ isDct (toPy x) = false ∧ bigOk (toPy x) = true ∧ (toPy x).shown.length ≤ sizeLine ∧ Q (.str (toPy x).shown)
  | _, _ => False
@[simp] theorem reprB_x (x : D) (Q : D → Prop) : reprB [x] Q = (rp 64 x = true ∧ isDct (toPy x) = false ∧ bigOk (toPy x) = true ∧ (toPy x).shown.length ≤ sizeLine ∧ Q (.str (toPy x).shown)) := rfl
theorem c_reprB (hd : Dig X.K) (hG : X.A.guards = some []) (hu : X.A.units + 65 < cLine) : CallR X (.builtin "repr") (LCa B X.kn reprB) := fun pins s σ H vs us Q I rx ⟨F, ds, Qd, e, dk, r, q, k⟩ => by
  unfold reprB at q
  split at q
  · rename_i x
    obtain ⟨v, rfl, r1⟩ := rb1 r
    obtain ⟨h1, hnd, h2, h3, h4⟩ := q
    obtain ⟨u, rfl, ru⟩ := vals1 rx
    have fin : Q (.str (toPy x).shown) H := k.here e dk h4 (.str _)
    have sh := rp_depth 64 x h1
    have nd := hd.at I.kIn
    have refs : ∀ a, v = .ref a → wpAny (model X.prog X.w) X.A (call (.builtin "repr") [u]) (EP X pins σ Q) X.xe s := fun a hv => by
      subst hv
      cases ru
      obtain ⟨as, rd, sf⟩ := repB_reads I e h1 r1 rfl hnd
      exact repr_big nd rd sf hnd h2 h3 hG (by omega) fun h' u tk hk => ⟨.str _, H, I.kept (t' := tk) hk, ⟨_, rfl⟩, fin⟩
    cases x with
    | non => cases r1.non; cases ru; exact PySem.P.repr_of_none ⟨.str _, H, I.tok _, ⟨_, rfl⟩, by simpa [toPy, PyData.shown] using fin⟩
    | bl b => cases r1.bl; cases ru; exact PySem.P.repr_of_bool ⟨.str _, H, I.tok _, ⟨_, rfl⟩, by simpa [toPy, PyData.shown] using fin⟩
    | int i =>
      cases r1.int
      obtain ⟨t, rfl⟩ := ru
      refine call_repr_slot (by omega) (typeIs_int s i t) PySem.F.slot_int_repr.toG (big_repr nd (by simp only [toPy, bigOk] at h2; exact of_decide_eq_true h2) ⟨_, _, rfl, .str _, H, I.tok _, ⟨_, rfl⟩, ?_⟩)
      simpa [toPy, PyData.shown] using fin
    | str i =>
      cases r1.str
      obtain ⟨t, rfl⟩ := ru
      exact PySem.P.repr_of_str ⟨.str _, H, I.tok _, ⟨_, rfl⟩, by simpa [toPy, PyData.shown] using fin⟩ (by simpa [toPy, PyData.shown] using h3)
    | tup xs => obtain ⟨a, us, hv, _⟩ := r1.tup e; exact refs a hv
    | lst xs => obtain ⟨a, us, hv, _⟩ := r1.lst e; exact refs a hv
    | dic _ => simp only [toPy, isDct] at hnd; cases hnd
    | obj _ _ => simp [rp] at h1
    | opq _ => simp [rp] at h1
  · exact q.elim
end
end ND

/-! ND19: int of a text of up to 4300 signs -/
namespace ND
open PySem PySem.Spec L2
open PyProof.Rows (envOfC)
section
open PySem.Calls PySem.NumText PySem.W.KIN PySem.W
theorem wp_max {M : Model} {A : Around} {E : Value → Shared → Prop} {s : Shared} {Q : Nat → Shared → Prop} (hn : s.heap.NoDigits) (h : Q 4300 s) : wpAny M A Builtin.intMaxStrDigits Q E s := by
  obtain ⟨mc, hns, hnone⟩ := hn
  unfold Builtin.intMaxStrDigits
  refine wpAny_bind (wpAny_nsGet hns ?_)
  rw [hnone]
  exact wpAny_pure h
theorem wp_text4 {M : Model} {A : Around} {E : Value → Shared → Prop} {s : Shared} {Q : Value → Shared → Prop} {v : Value} {text : List Nat} {n : Int} (hn : s.heap.NoDigits)
    (hs : ¬ (text.takeWhile (· != 0)).length ≤ 640) (hr : (int_private% "readNumeral") 4300 10 (text.takeWhile (· != 0)) = (int_private% "Numeral.value") n)
    (ha : ((text.takeWhile (· != 0)).length == text.length) = true) (h : Q (.int n s.toks) { s with toks := s.toks + 1 }) :
    wpAny M A ((int_private% "intFromText") v text 10) Q E s := by
  obtain ⟨hp, g, d, tk, os⟩ := s
  repeat (any_goals (first
    | assumption
    | (with_reducible refine wpAny_ite_false (decide_eq_false hs) ?_)
    | (with_reducible refine wpAny_ite_true (decide_eq_true ha) ?_)
    | (with_reducible refine wp_max hn ?_)
    | wp_step))
  all_goals (try rw [hr])
  all_goals (try dsimp only)
  repeat (any_goals (first
    | assumption
    | (with_reducible refine wpAny_ite_true (decide_eq_true ha) ?_)
    | wp_step))
theorem read4 {x : Str} {n : Int} (hx : x.length ≤ sizeLine) (hn : PySem.intText? x = some n) : (int_private% "readNumeral") 4300 10 (numSeenOf x) = (int_private% "Numeral.value") n ∧ ((numSeenOf x).length == (numTextOf x).length) = true := by
  rcases read4300 x hx with ⟨m, h1, h2, h3⟩ | ⟨h1, _⟩
  · cases hn.symm.trans h1
    exact ⟨h3, h2⟩
  · cases hn.symm.trans h1
def s4 (n : Int) : Spec := fun _ R s => s.heap.NoDigits ∧ R (.ok (.ret (.int n s.toks))) { s with toks := s.toks + 1 }
theorem meets4 {x : PySem.Str} {u : Tok} {n : Int} (hl : ¬ (numSeenOf x).length ≤ 640) (hx : x.length ≤ sizeLine) (hn : PySem.intText? x = some n) : Meets (Builtin.«int.__new__» ⟨[.type "int", .str x u], []⟩) (s4 n) := by
  rintro prog w A R s ⟨hd, h⟩
  refine wpAny_mono (Q := fun fin s' => ∃ v, fin = .done (.ret v) ∧ R (.ok (.ret v)) s') ?_ (fun fin s' h' => by obtain ⟨v, rfl, hv⟩ := h'; exact hv) fun _ _ e => e
  obtain ⟨hp, g, d, tk, os⟩ := s
  have f1 := PySem.F.conv_sub_int
  have f2 := PySem.F.madeHere_int
  have f3 := str_int
  have f4 := str_idx
  have f5 := str_trunc
  have f6 : typeOf (.str x u) = pure (.type "str") := rfl
  have hk := Hid.mk (And.intro hl (read4 hx hn))
  clear hl hn hx
  repeat (any_goals (first
    | assumption
    | ((with_reducible show wpAny _ _ ((int_private% "intFromText") _ _ _) _ _ _); refine wp_text4 hd hk.out.1 hk.out.2.1 hk.out.2.2 ?_)
    | wp_step))
  all_goals first | exact ⟨_, rfl, h⟩ | skip
theorem read1 {x : Str} {n : Int} (hs : (numSeenOf x).length ≤ 640) (hn : PySem.intText? x = some n) : (int_private% "readNumeral") 0 10 (numSeenOf x) = (int_private% "Numeral.value") n ∧ ((numSeenOf x).length == (numTextOf x).length) = true := by
  rcases read0 x hs with ⟨m, h1, h2, h3⟩ | ⟨h1, _⟩
  · cases hn.symm.trans h1
    exact ⟨h3, h2⟩
  · cases hn.symm.trans h1
theorem meets1 {x : PySem.Str} {u : Tok} {n : Int} (hl : (numSeenOf x).length ≤ 640) (hn : PySem.intText? x = some n) : Meets (Builtin.«int.__new__» ⟨[.type "int", .str x u], []⟩) (s4 n) := by
  rintro prog w A R s ⟨hd, h⟩
  refine wpAny_mono (Q := fun fin s' => ∃ v, fin = .done (.ret v) ∧ R (.ok (.ret v)) s') ?_ (fun fin s' h' => by obtain ⟨v, rfl, hv⟩ := h'; exact hv) fun _ _ e => e
  obtain ⟨hp, g, d, tk, os⟩ := s
  have f1 := PySem.F.conv_sub_int
  have f2 := PySem.F.madeHere_int
  have f3 := str_int
  have f4 := str_idx
  have f5 := str_trunc
  have f6 : typeOf (.str x u) = pure (.type "str") := rfl
  have hk := Hid.mk (And.intro hl (read1 hl hn))
  clear hl hn
  repeat (any_goals (first
    | assumption
    | ((with_reducible show wpAny _ _ ((int_private% "intFromText") _ _ _) _ _ _); refine wp_text hk.out.1 hk.out.2.1 hk.out.2.2 ?_)
    | wp_step))
  all_goals first | exact ⟨_, rfl, h⟩ | skip
theorem call_text4 {prog : Program} {w : World} {A : Around} {E : Value → Shared → Prop} {s : Shared} {Q : Value → Shared → Prop} {x : PySem.Str} {t : Tok} {n : Int} (hd : s.heap.NoDigits) (hx : x.length ≤ sizeLine) (hn : PySem.intText? x = some n)
    (h : Q (.int n s.toks) { s with toks := s.toks + 1 }) : wpAny (model prog w) A (call (.type "int") [.str x t]) Q E s := by
  by_cases hl : (numSeenOf x).length ≤ 640
  · exact call_int_1 (meets1 hl hn) ⟨hd, rfl, h⟩
  · exact call_int_1 (meets4 hl hx hn) ⟨hd, rfl, h⟩
end
section
variable {B : Bs} {X : Cx}
/-- int(..), of texts of any length that is allowed -/
def intB : List D → (D → Prop) → Prop
  | [.int i], Q => Q (.int i)
  | [.bl b], Q => Q (.int (if b = true then 1 else 0))
  | [.str x], Q => ∃ n, intText? x = some n ∧ x.length ≤ sizeLine ∧ Q (.int n)
  | _, _ => False
@[simp] theorem intB_i (i : Int) (Q : D → Prop) : intB [.int i] Q = Q (.int i) := rfl
@[simp] theorem intB_b (i : Bool) (Q : D → Prop) : intB [.bl i] Q = Q (.int (if i = true then 1 else 0)) := rfl
@[simp] theorem intB_s (x : Str) (Q : D → Prop) : intB [.str x] Q = ∃ n, intText? x = some n ∧ x.length ≤ sizeLine ∧ Q (.int n) := rfl
theorem c_intB (hd : Dig X.K) : CallR X (.type "int") (LCa B X.kn intB) := fun pins s σ H vs us Q I rx ⟨F, ds, Qd, e, dk, r, q, k⟩ => by
  unfold intB at q
  split at q
  · exact c_int pins s σ H vs us Q I rx ⟨F, _, Qd, e, dk, r, q, k⟩
  · exact c_int pins s σ H vs us Q I rx ⟨F, _, Qd, e, dk, r, q, k⟩
  · obtain ⟨v, rfl, r1⟩ := rb1 r
    obtain ⟨n, h1, h2, h3⟩ := q
    cases r1.str
    obtain ⟨u, rfl, t, rfl⟩ := vals1 rx
    exact call_text4 (hd.at I.kIn) h2 h1 ⟨.int n, H, I.tok _, ⟨_, rfl⟩, k.here e dk h3 (.int _)⟩
  · exact q.elim
end
end ND

/-! ND20: how long a repr is -/
namespace ND
open PySem PySem.Spec L2
mutual
/-- a bound of the length of the repr -/
def rsz : D → Nat
  | .non => 5
  | .bl _ => 5
  | .int _ => 4301
  | .str x => 10 * x.cps.size + 2
  | .tup xs => rszs xs + 3
  | .lst xs => rszs xs + 3
  | .dic xs => rszk xs + 3
  | _ => 5
def rszs : List D → Nat
  | [] => 0
  | x :: xs => rsz x + 2 + rszs xs
def rszk : List (Key × D) → Nat
  | [] => 0
  | (.inl _, x) :: xs => 4301 + rsz x + 4 + rszk xs
  | (.inr k, x) :: xs => 10 * k.cps.size + 2 + rsz x + 4 + rszk xs
end
theorem toPys_len : ∀ xs : List D, (PyData.shownAll (toPys xs)).length = xs.length
  | [] => by simp [toPys, PyData.shownAll]
  | x :: xs => by simp [toPys, PyData.shownAll, toPys_len xs]
theorem toPyK_len : ∀ xs : List (Key × D), (PyData.shownKv (toPyK xs)).length = xs.length
  | [] => by simp [toPyK, PyData.shownKv]
  | (.inl _, x) :: xs => by simp [toPyK, PyData.shownKv, toPyK_len xs]
  | (.inr _, x) :: xs => by simp [toPyK, PyData.shownKv, toPyK_len xs]
theorem str_rsz {x : Str} (h1 : PyData.strOk x = true) : (PyData.shown (.str x)).length ≤ 10 * x.cps.size + 2 := by
  have hx : ∀ c ∈ x.cps.toList, c < 16 ^ 8 := fun c hc => by
    unfold PyData.strOk at h1
    rw [← Array.all_toList, List.all_eq_true] at h1
    have := of_decide_eq_true (h1 c hc)
    omega
  simp only [PyData.shown]
  exact StrLaws.reprText_len x hx
theorem int_rsz {i : Int} (h : bigOk (.int i) = true) : (PyData.shown (.int i)).length ≤ 4301 := by
  simp only [bigOk, decide_eq_true_eq] at h
  have e := int_text_length_le10 (k := 4300) (by decide) h
  simp only [PyData.shown]
  rw [ofString_length]
  exact e
mutual
theorem shown_rsz : ∀ (n : Nat) (d : D), rp n d = true → bigOk (toPy d) = true → (toPy d).shown.length ≤ rsz d
  | _, .non, _, _ => by show (PyData.shown .none).length ≤ 5; decide
  | _, .bl b, _, _ => by cases b <;> decide
  | _, .int i, _, h => by
    simp only [toPy, rsz] at h ⊢
    exact int_rsz h
  | n, .str x, h, _ => by
    simp only [toPy, rsz]
    exact str_rsz (by cases n <;> simpa only [rp] using h)
  | 0, .tup xs, h, _ => by simp [rp] at h
  | 0, .lst xs, h, _ => by simp [rp] at h
  | 0, .dic xs, h, _ => by simp [rp] at h
  | n + 1, .tup xs, h, h' => by
    have e := shownAll_rsz n xs (by simpa only [rp] using h) (by simpa only [toPy, bigOk] using h')
    have e2 := tupleText_len_le (PyData.shownAll (toPys xs))
    rw [toPys_len] at e2
    simp only [toPy, PyData.shown, rsz]
    omega
  | n + 1, .lst xs, h, h' => by
    have e := shownAll_rsz n xs (by simpa only [rp] using h) (by simpa only [toPy, bigOk] using h')
    have e2 := listText_len_le (PyData.shownAll (toPys xs))
    rw [toPys_len] at e2
    simp only [toPy, PyData.shown, rsz]
    omega
  | n + 1, .dic xs, h, h' => by
    have e := shownKv_rsz n xs (by simpa only [rp] using h) (by simpa only [toPy, bigOk] using h')
    have e2 := dictText_len_le (PyData.shownKv (toPyK xs))
    rw [toPyK_len] at e2
    simp only [toPy, PyData.shown, rsz]
    omega
  | n, .obj _ _, h, _ => by simp [rp] at h
  | n, .opq _, h, _ => by simp [rp] at h
theorem shownAll_rsz : ∀ (n : Nat) (xs : List D), rps n xs = true → bigAll (toPys xs) = true → ((PyData.shownAll (toPys xs)).map (·.length)).sum + 2 * xs.length ≤ rszs xs
  | _, [], _, _ => by simp [toPys, PyData.shownAll, rszs]
  | n, x :: xs, h, h' => by
    simp only [rps, Bool.and_eq_true] at h
    simp only [toPys, bigAll, Bool.and_eq_true] at h'
    have e1 := shown_rsz n x h.1 h'.1
    have e2 := shownAll_rsz n xs h.2 h'.2
    simp only [toPys, PyData.shownAll, rszs, List.map_cons, List.sum_cons, List.length_cons]
    omega
theorem shownKv_rsz : ∀ (n : Nat) (xs : List (Key × D)), rpk n xs = true → bigKv (toPyK xs) = true → ((PyData.shownKv (toPyK xs)).map (·.length)).sum + 2 * xs.length ≤ rszk xs
  | _, [], _, _ => by simp [toPyK, PyData.shownKv, rszk]
  | n, (.inl k, x) :: xs, h, h' => by
    simp only [rpk, Bool.and_eq_true] at h
    simp only [toPyK, bigKv, Bool.and_eq_true] at h'
    have e0 := int_rsz h'.1.1
    have e1 := shown_rsz n x h.1 h'.1.2
    have e2 := shownKv_rsz n xs h.2 h'.2
    have e3 : ((PyData.shown (.int k)) ++ ": " ++ (toPy x).shown).length = (PyData.shown (.int k)).length + 2 + (toPy x).shown.length := by
      rw [strLen_append, strLen_append]; rfl
    simp only [toPyK, PyData.shownKv, rszk, List.map_cons, List.sum_cons, List.length_cons]
    omega
  | n, (.inr k, x) :: xs, h, h' => by
    simp only [rpk, Bool.and_eq_true] at h
    simp only [toPyK, bigKv, Bool.and_eq_true] at h'
    have e0 := str_rsz h.1.1
    have e1 := shown_rsz n x h.1.2 h'.1.2
    have e2 := shownKv_rsz n xs h.2 h'.2
    have e3 : ((PyData.shown (.str k)) ++ ": " ++ (toPy x).shown).length = (PyData.shown (.str k)).length + 2 + (toPy x).shown.length := by
      rw [strLen_append, strLen_append]; rfl
    simp only [toPyK, PyData.shownKv, rszk, List.map_cons, List.sum_cons, List.length_cons]
    omega
end
/-- what can be shown -/
def Rok (x : D) : Prop := rp 64 x = true ∧ isDct (toPy x) = false ∧ bigOk (toPy x) = true ∧ rsz x ≤ 16000000
theorem Rok.len {x : D} (h : Rok x) : (toPy x).shown.length ≤ sizeLine := Nat.le_trans (shown_rsz _ _ h.1 h.2.2.1) (Nat.le_trans h.2.2.2 (by decide))
theorem Rok.reprB {x : D} {Q : D → Prop} (h : Rok x) (q : Q (.str (toPy x).shown)) : reprB [x] Q := by
  rw [reprB_x]
  exact ⟨h.1, h.2.1, h.2.2.1, h.len, q⟩
/-- a for by what holds before each turn -/
theorem forG_inv {gt : GG} {g : GS} {E : Ed} (P : List D → List SV → Prop) (hend : ∀ σ, P [] σ → E.nx σ)
    (step : ∀ x xs σ, P (x :: xs) σ → ∀ E' : Ed, E'.rt = E.rt → E'.bk = E.nx → (∀ σ2, P xs σ2 → E'.nx σ2) → (∀ σ2, P xs σ2 → E'.ct σ2) → gt x σ fun σ' => g E' σ') : ∀ xs σ, P xs σ → forG gt g xs E σ
  | [], σ, h => hend σ h
  | x :: xs, σ, h => step x xs σ h _ rfl rfl (fun σ2 h2 => forG_inv P hend step xs σ2 h2) fun σ2 h2 => forG_inv P hend step xs σ2 h2
end ND

/-! ND21: x(lambda: ..), where x calls what it gets -/
namespace ND
open PySem PySem.Spec L2
open PyProof.Rows (envOfC)
/-- what running the lambda asks: of an error, of the answer -/
abbrev Act := (Er → Prop) → (D → Prop) → Prop
/-- what a def promises that gets a lambda -/
abbrev ASp := WD → Act → (D → Prop) → Prop
section
variable {P : Program} {w : World} {K : PySem.W.Frag} {mg : Str → Option Value} {base : Heap} {T : List (Addr × Str)} {x a : Str} {st : Stmt} {f : Addr} {fd : FuncData} {N : List Str} {k : Nat} {sp : ASp} {g : WD → Addr → Act → GS}
end
/-! ### the making of a lambda: what becomes of the heap -/
section
variable {X : Cx} {pins : List (Addr × Obj)} {σ : L2.St} {H : Hp} {s : Shared}
end
section
variable {B : Bs} {X : Cx} {M : Str → Str → Option Bool}
end
end ND

/-! ND22: try around what a lambda does; str of integers; t[::-1] of a tuple; a list of one's own made in a parallel assignment; the empty promise -/
namespace ND
open PySem PySem.Spec L2
open PyProof.Rows (envOfC)
section
variable {B : Bs} {X : Cx} {M : Str → Str → Option Bool}
theorem nbAll : bootBuiltins "all" = some (.builtin "all") := by decide +kernel
/-! str -/
end
/-! ### t[::-1], t a tuple that is not empty -/
section
variable {prog : Program} {w : World} {A : Around} {E : Value → Shared → Prop} {s : Shared}
end
end ND

/-! ND23: [::-1] of lists and tuples; dict displays; x, y = [..], e; the promise of nothing; the end of a law with tables -/
namespace ND
open PySem PySem.Spec L2
open PyProof.Rows
section
variable {B : Bs} {X : Cx} {e a b : Expr} {fa fb : GE} {pos : Pos}
/-! ### e[::-1] -/
/-! ### {} and {k: e}, k written -/
@[simp] def gDic1 (k : Key) (fa : GE) (σ : List SV) (Q : D → Prop) : Prop := fa σ fun x => Q (.dic [(k, x)])
/-! ### x, y = [..], e -/
end
/-! ### the promise of nothing -/
section
variable {P : Program} {w : World} {K : PySem.W.Frag} {mg : Str → Option Value} {base : Heap} {T : List (Addr × Str)} {x : Str} {st : Stmt} {f : Addr} {fd : FuncData} {k : Nat} {ps : List Str}
end
end ND

/-! ND24: the end of a law whose defs make lambdas -/
namespace ND
open PySem PySem.Spec L2 PyProof.Rows
open PyProof.Rows (envOfC)
section
variable {K : PySem.W.Frag} {a b : Addr} {o : Obj} {ns : List Int} {ts : List Addr} {u : HO}
end
end ND

/-! ND25: defs that make lambdas (their code object is known); small rules for the plain laws -/
namespace ND
open PySem PySem.Spec L2
open PyProof.Rows (envOfC)
section
variable {P : Program} {w : World} {K : PySem.W.Frag} {mg : Str → Option Value} {base : Heap} {x : Str} {st : Stmt} {f : Addr} {N ps : List Str} {k : Nat} {sp : DSp} {g : WD → (Er → Prop) → GS} {T : List (Addr × Str)} {cdv : Value}
end
section
variable {B : Bs} {X : Cx} {e : Expr} {pos : Pos}
theorem sd_appE {k : Nat} {x : Str} {px apos cpos : Pos} {fe : GE} (hv : PE X (.Name x px) (tVar k)) (ha : ED B X e fe) (hbase : attributeBase (.Name x px) "append" X.env (eval (.Name x px) X.env) = eval (.Name x px) X.env := by rfl)
    (hfew : ((backTo cpos (starEach [e] X.env)).all (fun x => !x.1) && (backToKw cpos (keywordEach [] X.env)).all (fun x => x.1.isSome) && decide ([e].length + ([] : List Keyword).length + (if ([] : List Keyword).isEmpty then 0 else 1) < 30)) = true := by rfl)
    (hline : (apos.endLine == cpos.line) = true := by rfl) (hs1 : starEach [e] X.env = (false, eval e X.env) :: starEach [] X.env := by rfl) (hplain : (backTo cpos (starEach [] X.env)).any (·.1) = false := by rfl)
    (hs : swapsWith (.Call (.Attribute (.Name x px) "append" apos) [e] [] cpos) none pos.line X.env = pure false := by rfl) : SD B X (.Expr (.Call (.Attribute (.Name x px) "append" apos) [e] [] cpos) pos) (gApp k fe) :=
  sd_app (pe_bm PySem.F.plainAttrs_list PySem.F.slot_list_append PySem.F.type_list_append mt_append hv (pa_cons ha.run pa_nil hs1) hbase hfew hline hs1 hplain) hs
end
end ND

/-! ND26: plain facts that many laws need: sizes, draws, digits, data that can be shown -/
namespace ND
open PySem PySem.Spec L2
abbrev dkD (d : Addr) : D := .opq (.ref d)
def Sz (n : Nat) (i : Int) : Prop := i.natAbs < 2 ^ n
instance (n : Nat) (i : Int) : Decidable (Sz n i) := inferInstanceAs (Decidable (_ < _))
theorem Sz.mono {n m : Nat} {i : Int} (h : Sz n i) (e : n ≤ m) : Sz m i := Nat.lt_of_lt_of_le h (Nat.pow_le_pow_right (by decide) e)
theorem Sz.mul {n m : Nat} {i j : Int} (h : Sz n i) (h' : Sz m j) : Sz (n + m) (i * j) := by
  show (i * j).natAbs < 2 ^ (n + m)
  rw [Int.natAbs_mul, Nat.pow_add]
  exact Nat.mul_lt_mul'' h h'
theorem Sz.add {n : Nat} {i j : Int} (h : Sz n i) (h' : Sz n j) : Sz (n + 1) (i + j) := by
  have h1 : i.natAbs < 2 ^ n := h
  have h2 : j.natAbs < 2 ^ n := h'
  show (i + j).natAbs < 2 ^ (n + 1)
  rw [Nat.pow_succ]
  omega
theorem Sz.neg {n : Nat} {i : Int} (h : Sz n i) : Sz n (-i) := by
  show (-i).natAbs < 2 ^ n
  rw [Int.natAbs_neg]
  exact h
theorem Sz.sub {n : Nat} {i j : Int} (h : Sz n i) (h' : Sz n j) : Sz (n + 1) (i - j) := by
  rw [Int.sub_eq_add_neg]
  exact h.add h'.neg
theorem Sz.log {n : Nat} {i : Int} (h : Sz n i) : i.natAbs.log2 ≤ n := by
  by_cases e : i.natAbs = 0
  · rw [e]
    simp
  · exact Nat.le_of_lt ((Nat.log2_lt e).mpr h)
theorem Sz.ok {n m : Nat} {i j : Int} (h : Sz n i) (h' : Sz m j) (e : n + m < 1000000) : MulOk i j := by
  have := h.log
  have := h'.log
  show i.natAbs.log2 + j.natAbs.log2 < 1000000
  omega
theorem dr {d l : Addr} {k : Int} {Q : D → Prop} {R : Er → Prop} (h1 : 0 < k) (h2 : k < 2 ^ 62) (q : ∀ r, 0 ≤ r → r < k → Q (.int r)) : spDraw (some (d, l)) [dkD d, .int k] Q R := ⟨d, l, k, rfl, rfl, h1, h2, q⟩
theorem e62 : (2 : Int) ^ 62 = 4611686018427387904 := by decide
theorem Sz.small {i : Int} (h1 : -1000 ≤ i) (h2 : i ≤ 1000) : Sz 20 i := by
  show i.natAbs < 2 ^ 20
  omega
theorem ten_sz {k : Nat} {i : Int} (h0 : 0 ≤ i) (h : i < 10 ^ (6 * k)) : Sz (20 * k) i := by
  have e : (10 : Nat) ^ (6 * k) ≤ 2 ^ (20 * k) := by
    rw [Nat.pow_mul, Nat.pow_mul]
    exact Nat.pow_le_pow_left (by decide) k
  show i.natAbs < 2 ^ (20 * k)
  have h2 : ((10 : Int) ^ (6 * k)) = (((10 : Nat) ^ (6 * k) : Nat) : Int) := by simp
  rw [h2] at h
  omega

mutual
theorem rp_mono : ∀ (n m : Nat) (d : D), n ≤ m → rp n d = true → rp m d = true
  | n, m, .non, _, _ => by cases m <;> simp [rp]
  | n, m, .bl b, _, _ => by cases m <;> simp [rp]
  | n, m, .int b, _, _ => by cases m <;> simp [rp]
  | n, m, .str x, _, h => by cases n <;> cases m <;> simpa [rp] using h
  | 0, m, .tup xs, _, h => by simp [rp] at h
  | 0, m, .lst xs, _, h => by simp [rp] at h
  | 0, m, .dic xs, _, h => by simp [rp] at h
  | n + 1, 0, .tup xs, e, h => absurd e (by omega)
  | n + 1, 0, .lst xs, e, h => absurd e (by omega)
  | n + 1, 0, .dic xs, e, h => absurd e (by omega)
  | n + 1, m + 1, .tup xs, e, h => by
    simp only [rp] at h ⊢
    exact rps_mono n m xs (by omega) h
  | n + 1, m + 1, .lst xs, e, h => by
    simp only [rp] at h ⊢
    exact rps_mono n m xs (by omega) h
  | n + 1, m + 1, .dic xs, e, h => by
    simp only [rp] at h ⊢
    exact rpk_mono n m xs (by omega) h
  | n, m, .obj _ _, _, h => by cases n <;> simp [rp] at h
  | n, m, .opq _, _, h => by cases n <;> simp [rp] at h
theorem rps_mono : ∀ (n m : Nat) (d : List D), n ≤ m → rps n d = true → rps m d = true
  | n, m, [], _, _ => by simp [rps]
  | n, m, x :: xs, e, h => by
    simp only [rps, Bool.and_eq_true] at h ⊢
    exact ⟨rp_mono n m x e h.1, rps_mono n m xs e h.2⟩
theorem rpk_mono : ∀ (n m : Nat) (d : List (Key × D)), n ≤ m → rpk n d = true → rpk m d = true
  | n, m, [], _, _ => by simp [rpk]
  | n, m, (.inl k, x) :: xs, e, h => by
    simp only [rpk, Bool.and_eq_true] at h ⊢
    exact ⟨rp_mono n m x e h.1, rpk_mono n m xs e h.2⟩
  | n, m, (.inr k, x) :: xs, e, h => by
    simp only [rpk, Bool.and_eq_true] at h ⊢
    exact ⟨⟨h.1.1, rp_mono n m x e h.1.2⟩, rpk_mono n m xs e h.2⟩
end
theorem rp_ty {n : Nat} {x : D} (h : rp n x = true) : (tyD x).isSome = true := by
  cases x <;> simp [tyD] <;> cases n <;> simp [rp] at h
mutual
/-- integers within are below m -/
def sm (m : Nat) : D → Bool
  | .int i => decide (i.natAbs < m)
  | .tup xs => sms m xs
  | .lst xs => sms m xs
  | .dic xs => smk m xs
  | _ => true
def sms (m : Nat) : List D → Bool
  | [] => true
  | x :: xs => sm m x && sms m xs
def smk (m : Nat) : List (Key × D) → Bool
  | [] => true
  | (.inl k, x) :: xs => decide (k.natAbs < m) && sm m x && smk m xs
  | (.inr k, x) :: xs => sm m x && smk m xs
end
mutual
theorem sm_mono : ∀ (n m : Nat) (d : D), n ≤ m → sm n d = true → sm m d = true
  | n, m, .non, _, _ => by simp [sm]
  | n, m, .bl b, _, _ => by simp [sm]
  | n, m, .int b, e, h => by
    simp only [sm, decide_eq_true_eq] at h ⊢
    omega
  | n, m, .str x, _, h => by simp [sm]
  | n, m, .tup xs, e, h => by
    simp only [sm] at h ⊢
    exact sms_mono n m xs e h
  | n, m, .lst xs, e, h => by
    simp only [sm] at h ⊢
    exact sms_mono n m xs e h
  | n, m, .dic xs, e, h => by
    simp only [sm] at h ⊢
    exact smk_mono n m xs e h
  | n, m, .obj _ _, _, h => by simp [sm]
  | n, m, .opq _, _, h => by simp [sm]
theorem sms_mono : ∀ (n m : Nat) (d : List D), n ≤ m → sms n d = true → sms m d = true
  | n, m, [], _, _ => by simp [sms]
  | n, m, x :: xs, e, h => by
    simp only [sms, Bool.and_eq_true] at h ⊢
    exact ⟨sm_mono n m x e h.1, sms_mono n m xs e h.2⟩
theorem smk_mono : ∀ (n m : Nat) (d : List (Key × D)), n ≤ m → smk n d = true → smk m d = true
  | n, m, [], _, _ => by simp [smk]
  | n, m, (.inl k, x) :: xs, e, h => by
    simp only [smk, Bool.and_eq_true, decide_eq_true_eq] at h ⊢
    exact ⟨⟨Nat.lt_of_lt_of_le h.1.1 e, sm_mono n m x e h.1.2⟩, smk_mono n m xs e h.2⟩
  | n, m, (.inr k, x) :: xs, e, h => by
    simp only [smk, Bool.and_eq_true] at h ⊢
    exact ⟨sm_mono n m x e h.1, smk_mono n m xs e h.2⟩
end
mutual
theorem sm_big : ∀ (d : D), sm (10 ^ 4300) d = true → bigOk (toPy d) = true
  | .non, _ => by simp [toPy, bigOk]
  | .bl b, _ => by simp [toPy, bigOk]
  | .int b, h => by simpa only [sm, toPy, bigOk] using h
  | .str x, h => by simp [toPy, bigOk]
  | .tup xs, h => by
    simp only [sm, toPy, bigOk] at h ⊢
    exact sms_big xs h
  | .lst xs, h => by
    simp only [sm, toPy, bigOk] at h ⊢
    exact sms_big xs h
  | .dic xs, h => by
    simp only [sm, toPy, bigOk] at h ⊢
    exact smk_big xs h
  | .obj _ _, h => by simp [toPy, bigOk]
  | .opq _, h => by simp [toPy, bigOk]
theorem sms_big : ∀ (d : List D), sms (10 ^ 4300) d = true → bigAll (toPys d) = true
  | [], _ => by simp [toPys, bigAll]
  | x :: xs, h => by
    simp only [sms, toPys, bigAll, Bool.and_eq_true] at h ⊢
    exact ⟨sm_big x h.1, sms_big xs h.2⟩
theorem smk_big : ∀ (d : List (Key × D)), smk (10 ^ 4300) d = true → bigKv (toPyK d) = true
  | [], _ => by simp [toPyK, bigKv]
  | (.inl k, x) :: xs, h => by
    simp only [smk, toPyK, bigKv, bigOk, Bool.and_eq_true] at h ⊢
    exact ⟨⟨h.1.1, sm_big x h.1.2⟩, smk_big xs h.2⟩
  | (.inr k, x) :: xs, h => by
    simp only [smk, toPyK, bigKv, bigOk, Bool.and_eq_true] at h ⊢
    exact ⟨⟨trivial, sm_big x h.1⟩, smk_big xs h.2⟩
end
/-- data at most n deep, integers below 2 ^ m, a repr of at most s signs -/
structure Pok (n m s : Nat) (x : D) : Prop where
  r : rp n x = true
  b : sm (2 ^ m) x = true
  z : rsz x ≤ s
theorem Pok.up {n m s n' m' s' : Nat} {x : D} (h : Pok n m s x) (e1 : n ≤ n') (e2 : m ≤ m') (e3 : s ≤ s') : Pok n' m' s' x := ⟨rp_mono _ _ _ e1 h.r, sm_mono _ _ _ (Nat.pow_le_pow_right (by decide) e2) h.b, Nat.le_trans h.z e3⟩
theorem Pok.ty {n m s : Nat} {x : D} (h : Pok n m s x) : (tyD x).isSome = true := rp_ty h.r
theorem pw4300 : (2 : Nat) ^ 14000 ≤ 10 ^ 4300 := by decide +kernel
theorem Pok.rok {n m s : Nat} {x : D} (h : Pok n m s x) (e1 : n ≤ 64) (e2 : m ≤ 14000) (e3 : s ≤ 16000000) (nd : isDct (toPy x) = false) : Rok x :=
  ⟨rp_mono _ _ _ e1 h.r, nd, sm_big _ (sm_mono _ _ _ (Nat.le_trans (Nat.pow_le_pow_right (by decide) e2) pw4300) h.b), Nat.le_trans h.z e3⟩
theorem pok_tup {n m : Nat} {xs : List D} (h1 : rps n xs = true) (h2 : sms (2 ^ m) xs = true) : Pok (n + 1) m (rszs xs + 3) (.tup xs) := ⟨by simpa only [rp] using h1, by simpa only [sm] using h2, by simp [rsz]⟩
theorem Sz.sm {n : Nat} {i : Int} (h : Sz n i) : sm (2 ^ n) (.int i) = true := by
  simp only [ND.sm, decide_eq_true_eq]
  exact h
theorem pok_int {m : Nat} {i : Int} (h : Sz m i) : Pok 0 m 4301 (.int i) := ⟨by simp [rp], h.sm, by simp [rsz]⟩
def look3 (l : List (Str × Str × Bool)) (a b : Str) : Option Bool := (l.find? fun e => e.1 == a && e.2.1 == b).map fun e => e.2.2
theorem look3_mem {l : List (Str × Str × Bool)} {a b : Str} {r : Bool} (h : look3 l a b = some r) : (a, b, r) ∈ l := by
  unfold look3 at h
  obtain ⟨⟨x, y, z⟩, e, rfl⟩ := Option.map_eq_some_iff.mp h
  have h1 := List.find?_some e
  simp only [Bool.and_eq_true, beq_iff_eq] at h1
  obtain ⟨rfl, rfl⟩ := h1
  exact List.mem_of_find?_eq_some e
end ND

/-! ND27: a shown text has good signs -/
namespace ND
open PySem PySem.Spec L2 PySem.Builtin.Str
def Good (x : Str) : Prop := ∀ c ∈ x.cps.toList, c < 0x110000
theorem good_iff {x : Str} : PyData.strOk x = true ↔ Good x := by
  unfold PyData.strOk Good
  rw [← Array.all_toList, List.all_eq_true]
  exact ⟨fun h c m => of_decide_eq_true (h c m), fun h c m => decide_eq_true (h c m)⟩
theorem Good.app {x y : Str} (h : Good x) (k : Good y) : Good (x ++ y) := fun c m => by
  have e : (x ++ y).cps.toList = x.cps.toList ++ y.cps.toList := by
    show (x.cps ++ y.cps).toList = _
    exact Array.toList_append
  rw [e] at m
  exact (List.mem_append.mp m).elim (h c) (k c)
theorem good_of (s : String) : Good (Str.ofString s) := fun c m => by
  rw [Str.ofString_eq_toList] at m
  obtain ⟨a, _, rfl⟩ := List.mem_map.mp (by simpa using m)
  have := a.valid
  simp only [UInt32.isValidChar, Nat.isValidChar] at this
  show a.val.toNat < 0x110000
  omega
theorem good_join {s : Str} (h : Good s) : ∀ ts : List Str, (∀ t ∈ ts, Good t) → Good (Str.join s ts)
  | [], _ => fun c m => by simp [Str.join, Str.empty] at m
  | [x], k => k x (List.mem_singleton_self _)
  | x :: y :: r, k => ((k x List.mem_cons_self).app h).app (good_join h (y :: r) fun t m => k t (List.mem_cons_of_mem _ m))
theorem good_from : ∀ (ts : List Str) (k : Nat) (acc : Str), Good acc → (∀ t ∈ ts, Good t) → Good (textFrom k acc ts)
  | [], _, _, h, _ => h
  | t :: r, k, acc, h, z => good_from r (k + 1) _ ((h.app (good_of _)).app (z t List.mem_cons_self)) fun u m => z u (List.mem_cons_of_mem _ m)
theorem digits_good (w c d : Nat) (m : d ∈ List.replicate (w - ((Nat.toDigits 16 c).map Char.toNat).length) 48 ++ (Nat.toDigits 16 c).map Char.toNat) : d < 0x110000 := by
  rcases List.mem_append.mp m with h | h
  · rw [List.eq_of_mem_replicate h]
    decide
  · obtain ⟨a, _, rfl⟩ := List.mem_map.mp h
    have := a.valid
    simp only [UInt32.isValidChar, Nat.isValidChar] at this
    show a.val.toNat < 0x110000
    omega
theorem reprChar_good {q c : Nat} (hq : q < 0x110000) (hc : c < 0x110000) : ∀ d ∈ Builtin.Str.reprChar q c, d < 0x110000 := by
  intro d m
  unfold Builtin.Str.reprChar at m
  dsimp only at m
  repeat' split at m
  all_goals first
    | (simp only [List.mem_cons, List.not_mem_nil, or_false] at m; omega)
    | (rcases List.mem_append.mp m with h | h
       · simp only [List.mem_cons, List.not_mem_nil, or_false] at h
         omega
       · exact digits_good _ _ _ h)
theorem foldl_good {q : Nat} (hq : q < 0x110000) : ∀ (l : List Nat) (acc : Array Nat), (∀ c ∈ l, c < 0x110000) → (∀ c ∈ acc.toList, c < 0x110000) → ∀ c ∈ (l.foldl (fun out c => out ++ (Builtin.Str.reprChar q c).toArray) acc).toList, c < 0x110000
  | [], acc, _, h => h
  | x :: r, acc, k, h => foldl_good hq r _ (fun c m => k c (List.mem_cons_of_mem _ m)) fun c m => by
    rw [Array.toList_append] at m
    rcases List.mem_append.mp m with z | z
    · exact h c z
    · exact reprChar_good hq (k x List.mem_cons_self) c (by simpa using z)
theorem reprText_good {x : Str} (h : Good x) : Good (reprText x) := fun c m => by
  have hq : reprQuote x < 0x110000 := by
    unfold reprQuote
    split <;> decide
  unfold reprText at m
  simp only [Array.toList_push, List.mem_append, List.mem_singleton, ← Array.foldl_toList] at m
  rcases m with m | m
  · refine foldl_good hq x.cps.toList _ h (fun d z => ?_) c m
    simp at z
    omega
  · omega
theorem good_tuple {ts : List Str} (h : ∀ t ∈ ts, Good t) : Good (tupleText ts) := by
  unfold tupleText
  exact ((good_of _).app (good_join (good_of _) ts h)).app (good_of _)
theorem good_list {ts : List Str} (h : ∀ t ∈ ts, Good t) : Good (listText ts) := (good_from ts 0 _ (good_of _) h).app (good_of _)
theorem good_dict {ts : List Str} (h : ∀ t ∈ ts, Good t) : Good (dictText ts) := by
  unfold dictText
  exact ((good_of _).app (good_join (good_of _) ts h)).app (good_of _)
mutual
theorem shown_good : ∀ (n : Nat) (d : D), rp n d = true → Good (toPy d).shown
  | _, .non, _ => good_of "None"
  | _, .bl b, _ => by
    cases b
    · exact good_of "False"
    · exact good_of "True"
  | _, .int i, _ => by
    simp only [toPy, PyData.shown]
    exact good_of _
  | n, .str x, h => by
    simp only [toPy, PyData.shown]
    exact reprText_good (good_iff.mp (by cases n <;> simpa only [rp] using h))
  | 0, .tup xs, h => by simp [rp] at h
  | 0, .lst xs, h => by simp [rp] at h
  | 0, .dic xs, h => by simp [rp] at h
  | n + 1, .tup xs, h => by
    simp only [toPy, PyData.shown]
    exact good_tuple (shownAll_good n xs (by simpa only [rp] using h))
  | n + 1, .lst xs, h => by
    simp only [toPy, PyData.shown]
    exact good_list (shownAll_good n xs (by simpa only [rp] using h))
  | n + 1, .dic xs, h => by
    simp only [toPy, PyData.shown]
    exact good_dict (shownKv_good n xs (by simpa only [rp] using h))
  | n, .obj _ _, h => by simp [rp] at h
  | n, .opq _, h => by simp [rp] at h
theorem shownAll_good : ∀ (n : Nat) (xs : List D), rps n xs = true → ∀ t ∈ PyData.shownAll (toPys xs), Good t
  | _, [], _ => fun t m => by simp [toPys, PyData.shownAll] at m
  | n, x :: xs, h => by
    simp only [rps, Bool.and_eq_true] at h
    intro t m
    simp only [toPys, PyData.shownAll, List.mem_cons] at m
    rcases m with rfl | m
    · exact shown_good n x h.1
    · exact shownAll_good n xs h.2 t m
theorem shownKv_good : ∀ (n : Nat) (xs : List (Key × D)), rpk n xs = true → ∀ t ∈ PyData.shownKv (toPyK xs), Good t
  | _, [], _ => fun t m => by simp [toPyK, PyData.shownKv] at m
  | n, (.inl k, x) :: xs, h => by
    simp only [rpk, Bool.and_eq_true] at h
    intro t m
    simp only [toPyK, PyData.shownKv, List.mem_cons] at m
    rcases m with rfl | m
    · exact (Good.app (by simp only [PyData.shown]; exact good_of _) (good_of _)).app (shown_good n x h.1)
    · exact shownKv_good n xs h.2 t m
  | n, (.inr k, x) :: xs, h => by
    simp only [rpk, Bool.and_eq_true] at h
    intro t m
    simp only [toPyK, PyData.shownKv, List.mem_cons] at m
    rcases m with rfl | m
    · exact (Good.app (by simp only [PyData.shown]; exact reprText_good (good_iff.mp h.1.1)) (good_of _)).app (shown_good n x h.1.2)
    · exact shownKv_good n xs h.2 t m
end
/-- the text of a repr can be shown too -/
theorem Pok.text {n m s : Nat} {x : D} (h : Pok n m s x) (e1 : n ≤ 64) (e2 : m ≤ 14000) (e3 : s ≤ 1500000) : Rok (.str (toPy x).shown) := by
  have hl : (toPy x).shown.length ≤ rsz x := shown_rsz _ _ h.r (sm_big _ (sm_mono _ _ _ (Nat.le_trans (Nat.pow_le_pow_right (by decide) e2) pw4300) h.b))
  refine ⟨?_, by simp [toPy, isDct], by simp [toPy, bigOk], ?_⟩
  · simp only [rp]
    exact good_iff.mpr (shown_good _ _ h.r)
  · simp only [rsz]
    have := h.z
    have e : (toPy x).shown.length = (toPy x).shown.cps.size := rfl
    omega
@[simp] theorem szl0 : (0 < sizeLine) = True := eq_true (by decide)
@[simp] theorem sze0 : (0 ≤ sizeLine) = True := eq_true (by decide)
@[simp] theorem szl1 : (1 < sizeLine) = True := eq_true (by decide)
@[simp] theorem sze1 : (1 ≤ sizeLine) = True := eq_true (by decide)
@[simp] theorem szl2 : (2 < sizeLine) = True := eq_true (by decide)
@[simp] theorem sze2 : (2 ≤ sizeLine) = True := eq_true (by decide)
@[simp] theorem szl3 : (3 < sizeLine) = True := eq_true (by decide)
@[simp] theorem sze3 : (3 ≤ sizeLine) = True := eq_true (by decide)
@[simp] theorem szl4 : (4 < sizeLine) = True := eq_true (by decide)
@[simp] theorem sze4 : (4 ≤ sizeLine) = True := eq_true (by decide)
@[simp] theorem szl5 : (5 < sizeLine) = True := eq_true (by decide)
@[simp] theorem sze5 : (5 ≤ sizeLine) = True := eq_true (by decide)
@[simp] theorem szl6 : (6 < sizeLine) = True := eq_true (by decide)
@[simp] theorem sze6 : (6 ≤ sizeLine) = True := eq_true (by decide)
@[simp] theorem szl7 : (7 < sizeLine) = True := eq_true (by decide)
@[simp] theorem sze7 : (7 ≤ sizeLine) = True := eq_true (by decide)
@[simp] theorem szl8 : (8 < sizeLine) = True := eq_true (by decide)
@[simp] theorem sze8 : (8 ≤ sizeLine) = True := eq_true (by decide)
@[simp] theorem szl9 : (9 < sizeLine) = True := eq_true (by decide)
@[simp] theorem sze9 : (9 ≤ sizeLine) = True := eq_true (by decide)
@[simp] theorem szl10 : (10 < sizeLine) = True := eq_true (by decide)
@[simp] theorem sze10 : (10 ≤ sizeLine) = True := eq_true (by decide)
@[simp] theorem szl11 : (11 < sizeLine) = True := eq_true (by decide)
@[simp] theorem sze11 : (11 ≤ sizeLine) = True := eq_true (by decide)
@[simp] theorem szl12 : (12 < sizeLine) = True := eq_true (by decide)
@[simp] theorem sze12 : (12 ≤ sizeLine) = True := eq_true (by decide)
@[simp] theorem szl13 : (13 < sizeLine) = True := eq_true (by decide)
@[simp] theorem sze13 : (13 ≤ sizeLine) = True := eq_true (by decide)
@[simp] theorem szl14 : (14 < sizeLine) = True := eq_true (by decide)
@[simp] theorem sze14 : (14 ≤ sizeLine) = True := eq_true (by decide)
@[simp] theorem szl15 : (15 < sizeLine) = True := eq_true (by decide)
@[simp] theorem sze15 : (15 ≤ sizeLine) = True := eq_true (by decide)
@[simp] theorem szl16 : (16 < sizeLine) = True := eq_true (by decide)
@[simp] theorem sze16 : (16 ≤ sizeLine) = True := eq_true (by decide)
@[simp] theorem szl17 : (17 < sizeLine) = True := eq_true (by decide)
@[simp] theorem sze17 : (17 ≤ sizeLine) = True := eq_true (by decide)
@[simp] theorem szl18 : (18 < sizeLine) = True := eq_true (by decide)
@[simp] theorem sze18 : (18 ≤ sizeLine) = True := eq_true (by decide)
@[simp] theorem szl19 : (19 < sizeLine) = True := eq_true (by decide)
@[simp] theorem sze19 : (19 ≤ sizeLine) = True := eq_true (by decide)
@[simp] theorem szl20 : (20 < sizeLine) = True := eq_true (by decide)
@[simp] theorem sze20 : (20 ≤ sizeLine) = True := eq_true (by decide)
@[simp] theorem szl21 : (21 < sizeLine) = True := eq_true (by decide)
@[simp] theorem sze21 : (21 ≤ sizeLine) = True := eq_true (by decide)
@[simp] theorem szl22 : (22 < sizeLine) = True := eq_true (by decide)
@[simp] theorem sze22 : (22 ≤ sizeLine) = True := eq_true (by decide)
@[simp] theorem szl23 : (23 < sizeLine) = True := eq_true (by decide)
@[simp] theorem sze23 : (23 ≤ sizeLine) = True := eq_true (by decide)
@[simp] theorem szl24 : (24 < sizeLine) = True := eq_true (by decide)
@[simp] theorem sze24 : (24 ≤ sizeLine) = True := eq_true (by decide)
@[simp] theorem szl25 : (25 < sizeLine) = True := eq_true (by decide)
@[simp] theorem sze25 : (25 ≤ sizeLine) = True := eq_true (by decide)
@[simp] theorem szl26 : (26 < sizeLine) = True := eq_true (by decide)
@[simp] theorem sze26 : (26 ≤ sizeLine) = True := eq_true (by decide)
@[simp] theorem szl27 : (27 < sizeLine) = True := eq_true (by decide)
@[simp] theorem sze27 : (27 ≤ sizeLine) = True := eq_true (by decide)
@[simp] theorem szl28 : (28 < sizeLine) = True := eq_true (by decide)
@[simp] theorem sze28 : (28 ≤ sizeLine) = True := eq_true (by decide)
@[simp] theorem szl29 : (29 < sizeLine) = True := eq_true (by decide)
@[simp] theorem sze29 : (29 ≤ sizeLine) = True := eq_true (by decide)
@[simp] theorem szl30 : (30 < sizeLine) = True := eq_true (by decide)
@[simp] theorem sze30 : (30 ≤ sizeLine) = True := eq_true (by decide)
@[simp] theorem szl31 : (31 < sizeLine) = True := eq_true (by decide)
@[simp] theorem sze31 : (31 ≤ sizeLine) = True := eq_true (by decide)
@[simp] theorem szl32 : (32 < sizeLine) = True := eq_true (by decide)
@[simp] theorem sze32 : (32 ≤ sizeLine) = True := eq_true (by decide)
@[simp] theorem szl33 : (33 < sizeLine) = True := eq_true (by decide)
@[simp] theorem sze33 : (33 ≤ sizeLine) = True := eq_true (by decide)
@[simp] theorem szl34 : (34 < sizeLine) = True := eq_true (by decide)
@[simp] theorem sze34 : (34 ≤ sizeLine) = True := eq_true (by decide)
@[simp] theorem szl35 : (35 < sizeLine) = True := eq_true (by decide)
@[simp] theorem sze35 : (35 ≤ sizeLine) = True := eq_true (by decide)
@[simp] theorem szl36 : (36 < sizeLine) = True := eq_true (by decide)
@[simp] theorem sze36 : (36 ≤ sizeLine) = True := eq_true (by decide)
@[simp] theorem szl37 : (37 < sizeLine) = True := eq_true (by decide)
@[simp] theorem sze37 : (37 ≤ sizeLine) = True := eq_true (by decide)
@[simp] theorem szl38 : (38 < sizeLine) = True := eq_true (by decide)
@[simp] theorem sze38 : (38 ≤ sizeLine) = True := eq_true (by decide)
@[simp] theorem szl39 : (39 < sizeLine) = True := eq_true (by decide)
@[simp] theorem sze39 : (39 ≤ sizeLine) = True := eq_true (by decide)
@[simp] theorem szl40 : (40 < sizeLine) = True := eq_true (by decide)
@[simp] theorem sze40 : (40 ≤ sizeLine) = True := eq_true (by decide)
@[simp] theorem szl41 : (41 < sizeLine) = True := eq_true (by decide)
@[simp] theorem sze41 : (41 ≤ sizeLine) = True := eq_true (by decide)
@[simp] theorem szl42 : (42 < sizeLine) = True := eq_true (by decide)
@[simp] theorem sze42 : (42 ≤ sizeLine) = True := eq_true (by decide)
@[simp] theorem szl43 : (43 < sizeLine) = True := eq_true (by decide)
@[simp] theorem sze43 : (43 ≤ sizeLine) = True := eq_true (by decide)
@[simp] theorem szl44 : (44 < sizeLine) = True := eq_true (by decide)
@[simp] theorem sze44 : (44 ≤ sizeLine) = True := eq_true (by decide)
@[simp] theorem szl45 : (45 < sizeLine) = True := eq_true (by decide)
@[simp] theorem sze45 : (45 ≤ sizeLine) = True := eq_true (by decide)
@[simp] theorem szl46 : (46 < sizeLine) = True := eq_true (by decide)
@[simp] theorem sze46 : (46 ≤ sizeLine) = True := eq_true (by decide)
@[simp] theorem szl47 : (47 < sizeLine) = True := eq_true (by decide)
@[simp] theorem sze47 : (47 ≤ sizeLine) = True := eq_true (by decide)
@[simp] theorem szl48 : (48 < sizeLine) = True := eq_true (by decide)
@[simp] theorem sze48 : (48 ≤ sizeLine) = True := eq_true (by decide)
@[simp] theorem szl49 : (49 < sizeLine) = True := eq_true (by decide)
@[simp] theorem sze49 : (49 ≤ sizeLine) = True := eq_true (by decide)
@[simp] theorem szl50 : (50 < sizeLine) = True := eq_true (by decide)
@[simp] theorem sze50 : (50 ≤ sizeLine) = True := eq_true (by decide)
@[simp] theorem szl51 : (51 < sizeLine) = True := eq_true (by decide)
@[simp] theorem sze51 : (51 ≤ sizeLine) = True := eq_true (by decide)
@[simp] theorem szl52 : (52 < sizeLine) = True := eq_true (by decide)
@[simp] theorem sze52 : (52 ≤ sizeLine) = True := eq_true (by decide)
@[simp] theorem szl53 : (53 < sizeLine) = True := eq_true (by decide)
@[simp] theorem sze53 : (53 ≤ sizeLine) = True := eq_true (by decide)
@[simp] theorem szl54 : (54 < sizeLine) = True := eq_true (by decide)
@[simp] theorem sze54 : (54 ≤ sizeLine) = True := eq_true (by decide)
@[simp] theorem szl55 : (55 < sizeLine) = True := eq_true (by decide)
@[simp] theorem sze55 : (55 ≤ sizeLine) = True := eq_true (by decide)
@[simp] theorem szl56 : (56 < sizeLine) = True := eq_true (by decide)
@[simp] theorem sze56 : (56 ≤ sizeLine) = True := eq_true (by decide)
@[simp] theorem szl57 : (57 < sizeLine) = True := eq_true (by decide)
@[simp] theorem sze57 : (57 ≤ sizeLine) = True := eq_true (by decide)
@[simp] theorem szl58 : (58 < sizeLine) = True := eq_true (by decide)
@[simp] theorem sze58 : (58 ≤ sizeLine) = True := eq_true (by decide)
@[simp] theorem szl59 : (59 < sizeLine) = True := eq_true (by decide)
@[simp] theorem sze59 : (59 ≤ sizeLine) = True := eq_true (by decide)
@[simp] theorem szl60 : (60 < sizeLine) = True := eq_true (by decide)
@[simp] theorem sze60 : (60 ≤ sizeLine) = True := eq_true (by decide)
@[simp] theorem szl61 : (61 < sizeLine) = True := eq_true (by decide)
@[simp] theorem sze61 : (61 ≤ sizeLine) = True := eq_true (by decide)
@[simp] theorem szl62 : (62 < sizeLine) = True := eq_true (by decide)
@[simp] theorem sze62 : (62 ≤ sizeLine) = True := eq_true (by decide)
@[simp] theorem szl63 : (63 < sizeLine) = True := eq_true (by decide)
@[simp] theorem sze63 : (63 ≤ sizeLine) = True := eq_true (by decide)
@[simp] theorem szl64 : (64 < sizeLine) = True := eq_true (by decide)
@[simp] theorem sze64 : (64 ≤ sizeLine) = True := eq_true (by decide)
@[simp] theorem szl65 : (65 < sizeLine) = True := eq_true (by decide)
@[simp] theorem sze65 : (65 ≤ sizeLine) = True := eq_true (by decide)
@[simp] theorem szl66 : (66 < sizeLine) = True := eq_true (by decide)
@[simp] theorem sze66 : (66 ≤ sizeLine) = True := eq_true (by decide)
@[simp] theorem szl67 : (67 < sizeLine) = True := eq_true (by decide)
@[simp] theorem sze67 : (67 ≤ sizeLine) = True := eq_true (by decide)
@[simp] theorem szl68 : (68 < sizeLine) = True := eq_true (by decide)
@[simp] theorem sze68 : (68 ≤ sizeLine) = True := eq_true (by decide)
@[simp] theorem szl69 : (69 < sizeLine) = True := eq_true (by decide)
@[simp] theorem sze69 : (69 ≤ sizeLine) = True := eq_true (by decide)
@[simp] theorem ix_t0 (a : D) (r : List D) (Q : D → Prop) : ixD (.tup (a :: r)) (.int 0) Q = Q a := by simp [ixD, atI, ixN]
@[simp] theorem ix_t1 (a b : D) (r : List D) (Q : D → Prop) : ixD (.tup (a :: b :: r)) (.int 1) Q = Q b := by
  have h : (1 : Int) < (r.length : Int) + 1 + 1 := by omega
  simp [ixD, atI, ixN, h]
@[simp] theorem ix_t2 (a b c : D) (r : List D) (Q : D → Prop) : ixD (.tup (a :: b :: c :: r)) (.int 2) Q = Q c := by
  have h : (2 : Int) < (r.length : Int) + 1 + 1 + 1 := by omega
  simp [ixD, atI, ixN, h]
@[simp] theorem ix_l0 (a : D) (r : List D) (Q : D → Prop) : ixD (.lst (a :: r)) (.int 0) Q = Q a := by simp [ixD, atI, ixN]
@[simp] theorem ix_l1 (a b : D) (r : List D) (Q : D → Prop) : ixD (.lst (a :: b :: r)) (.int 1) Q = Q b := by
  have h : (1 : Int) < (r.length : Int) + 1 + 1 := by omega
  simp [ixD, atI, ixN, h]
@[simp] theorem ix_l2 (a b c : D) (r : List D) (Q : D → Prop) : ixD (.lst (a :: b :: c :: r)) (.int 2) Q = Q c := by
  have h : (2 : Int) < (r.length : Int) + 1 + 1 + 1 := by omega
  simp [ixD, atI, ixN, h]
end ND

/-! ND28: what an expression is, where it can be only one thing -/
namespace ND
open PySem PySem.Spec L2
structure Ev (σ : List SV) (f : GE) (x : D) : Prop where
  run : ∀ Q : D → Prop, Q x → f σ Q
structure EvA (σ : List SV) (f : GA) (x : List D) : Prop where
  run : ∀ Q : List D → Prop, Q x → f σ Q
section
variable {σ : List SV} {f g : GE} {fs : GA} {x y : D} {xs ys : List D} {i j : Int}
theorem Ev.c : Ev σ (gC x) x := ⟨fun _ q => q⟩
theorem EvA.nil : EvA σ ND.gNil [] := ⟨fun _ q => q⟩
theorem EvA.cons (h : Ev σ f x) (k : EvA σ fs xs) : EvA σ (ND.gCons f fs) (x :: xs) := ⟨fun Q q => h.run _ (k.run _ q)⟩
theorem Ev.tup (h : EvA σ fs xs) (hl : xs.length ≤ sizeLine) : Ev σ (ND.gTup fs) (.tup xs) := ⟨fun Q q => h.run _ ⟨hl, q⟩⟩
theorem Ev.lst (h : EvA σ fs xs) (hl : xs.length ≤ sizeLine) : Ev σ (gFrz (gLst fs)) (.lst xs) := ⟨fun Q q => h.run _ ⟨hl, q⟩⟩
theorem Ev.neg (h : Ev σ f (.int i)) : Ev σ (gUn negD f) (.int (-i)) := ⟨fun Q q => h.run _ q⟩
theorem Ev.dic {k : Key} (h : Ev σ f x) : Ev σ (gDic1 k f) (.dic [(k, x)]) := ⟨fun Q q => h.run _ q⟩
variable {s s' : GS} {E : Ed}
end
end ND

/-! ND29: zip of two tuples or two lists -/
namespace ND
open PySem PySem.Spec L2
section
variable {B : Bs} {X : Cx} {e e2 : Expr} {pos : Pos}
end
end ND

/-! ND30: rows of five, corners, outcomes, evaluation (first written for k13) -/
namespace ND
open PySem PySem.Spec L2
def isI : D → Bool | .int _ => true | _ => false
def nOf : D → Int | .int i => i | _ => 0
def isFive : D → Bool
  | .tup xs => decide (xs.length = 5) && xs.all isI
  | _ => false
def isDir : D → Bool
  | .int i => decide (0 ≤ i ∧ i ≤ 4)
  | _ => false
def tup5 (f : Int → Int) : D := .tup [.int (f 0), .int (f 1), .int (f 2), .int (f 3), .int (f 4)]
def sum5 (f : Int → Int) : Int := f 0 + f 1 + f 2 + f 3 + f 4
def at5 (a b c d e i : Int) : Int := if i = 0 then a else if i = 1 then b else if i = 2 then c else if i = 3 then d else e
def rz (f : Int → Int) (j u : Int) : Int → Int := fun i => f i + if i = j then u else 0
theorem five_of {j : Int} (h0 : 0 ≤ j) (h1 : j ≤ 4) : j = 0 ∨ j = 1 ∨ j = 2 ∨ j = 3 ∨ j = 4 := by omega
theorem bls_map (f : D → Bool) : ∀ xs : List D, blsOf (xs.map fun x => .bl (f x)) = some (xs.map f)
  | [] => rfl
  | x :: xs => by simp [blsOf, bls_map f xs]
theorem isI_n {x : D} (h : isI x = true) : ∃ i, x = .int i := by
  cases x with
  | int i => exact ⟨i, rfl⟩
  | _ => simp [isI] at h
theorem len3 {xs : List D} (h : xs.length = 3) : ∃ a b c, xs = [a, b, c] := by
  match xs, h with
  | [a, b, c], _ => exact ⟨a, b, c, rfl⟩
theorem ints_of : ∀ {xs : List D}, xs.all isI = true → intsOf xs = some (xs.map nOf)
  | [], _ => rfl
  | x :: xs, h => by
    simp only [List.all_cons, Bool.and_eq_true] at h
    obtain ⟨i, rfl⟩ := isI_n h.1
    simp [intsOf, ints_of h.2, nOf]
theorem five_ok {xs : List D} (hl : xs.length = 5) (ha : xs.all isI = true) : isFive (.tup xs) = true := by simp [isFive, hl, ha]
theorem sum5_D {f : Int → Int} {Q : D → Prop} (q : Q (.int (sum5 f))) : sumD [tup5 f] Q := by
  refine ⟨_, ints_of rfl, ?_⟩
  have e : (([D.int (f 0), .int (f 1), .int (f 2), .int (f 3), .int (f 4)]).map nOf).sum = sum5 f := by
    simp [nOf, sum5]
    omega
  rw [e]
  exact q
theorem pok_five {a b c d e : Int} (h1 : Sz 300 a) (h2 : Sz 300 b) (h3 : Sz 300 c) (h4 : Sz 300 d) (h5 : Sz 300 e) : Pok 1 300 22000 (.tup [.int a, .int b, .int c, .int d, .int e]) := by
  refine ⟨by simp [rp, rps], ?_, by simp [rsz, rszs]⟩
  simp only [sm, sms, Bool.and_eq_true, decide_eq_true_eq]
  exact ⟨h1, h2, h3, h4, h5, trivial⟩
def Szf (n : Nat) (f : Int → Int) : Prop := ∀ i, 0 ≤ i → i ≤ 4 → Sz n (f i)
theorem Szf.rz {n : Nat} {f : Int → Int} {j u : Int} (h : Szf n f) (hn : 20 ≤ n) (h1 : -100 ≤ u) (h2 : u ≤ 100) : Szf (n + 1) (rz f j u) := fun i i0 i4 => by
  unfold ND.rz
  split
  · exact (h _ i0 i4).add ((Sz.small (by omega) (by omega)).mono hn)
  · exact (h _ i0 i4).add ((Sz.small (by omega) (by omega)).mono hn)
section
variable {σ : List SV} {f g h : GE} {fs : GA} {x y : D} {xs ys : List D} {W : WD} {R : Er → Prop} {s s' t : GS} {E : Ed}
theorem Ev.repr (h : Ev σ f x) (hr : Rok x) : Ev σ (gBlt reprB (ND.gCons f ND.gNil)) (.str (toPy x).shown) := ⟨fun Q q => h.run _ (hr.reprB q)⟩
theorem Ev.sum {k : Int → Int} (a : Ev σ f (tup5 k)) : Ev σ (gBlt sumD (ND.gCons f ND.gNil)) (.int (sum5 k)) := ⟨fun Q z => a.run _ (sum5_D z)⟩
end
theorem Szf.pok {n : Nat} {f : Int → Int} (h : Szf n f) (hn : n ≤ 300) : Pok 6 300 200000 (tup5 f) :=
  (pok_five ((h 0 (by decide) (by decide)).mono hn) ((h 1 (by decide) (by decide)).mono hn) ((h 2 (by decide) (by decide)).mono hn) ((h 3 (by decide) (by decide)).mono hn) ((h 4 (by decide) (by decide)).mono hn)).up (by decide) (by decide) (by decide)
theorem Szf.rok {n : Nat} {f : Int → Int} (h : Szf n f) (hn : n ≤ 300) : Rok (tup5 f) := (h.pok hn).rok (by decide) (by decide) (by decide) (by simp [tup5, toPy, isDct])
end ND

/-! ND31: objects of classes of one's own: attributes, isinstance, == by one's own __eq__, makers -/
namespace ND
open PySem PySem.Spec L2
open PyProof.Rows (envOfC)

/-! ### what is known of a class -/
structure ObC (K : Kn) (n : Str) (C : Addr) : Prop where
  mg : K.mg n = some (.ref C)
  cl : Cls K.K C
  ha : PySem.W.findIn K.K (.ref C) "__class__" = some (some (.builtin "object.__class__"))
  hn : PySem.W.specialIn K.K (.builtin "object.__class__") "__get__" = some (some (.builtin "getset_descriptor.__get__"))
  tk : PySem.W.takesIn K.K (.builtin "object.__class__") = some true
  mo : PySem.W.mroIn K.K C (.type "object") = some true
/-- the attributes of instances -/
def FldTab (K : Kn) (fld : Str → Str → Bool) : Prop := ∀ n f, fld n f = true → ∃ C, K.mg n = some (.ref C) ∧ Cls K.K C ∧ NoAttr K.K C f
def tyL : List String := ["NoneType", "bool", "int", "str", "tuple", "list", "dict"]
/-- the classes: isinstance of and against them -/
structure ObTab (K : Kn) (known : Str → Bool) : Prop where
  ob : ∀ n, known n = true → ∃ C, ObC K n C
  bt : ∀ n C, known n = true → K.mg n = some (.ref C) → ∀ t ∈ tyL, PySem.W.kitOne K.K (.type t) (.ref C) = some false
  tb : ∀ n C, known n = true → K.mg n = some (.ref C) → ∀ t ∈ tyL, PySem.W.kitOne K.K (.ref C) (.type t) = some false
  oo : ∀ n m C C', known n = true → known m = true → K.mg n = some (.ref C) → K.mg m = some (.ref C') → PySem.W.kitOne K.K (.ref C) (.ref C') = some (n == m)
  ns : ∀ n C, known n = true → K.mg n = some (.ref C) → ∀ t ∈ tyL, PySem.W.subIn K.K (.type t) (.ref C) = some false
  no : ∀ n m C C', known n = true → known m = true → (n == m) = false → K.mg n = some (.ref C) → K.mg m = some (.ref C') → PySem.W.subIn K.K (.ref C') (.ref C) = some false
theorem RepFs.look {K : Kn} {F : Hp} {f : Str} {x : D} : ∀ {vs : List (Str × V)} {fs : List (Str × D)}, RepFs K F vs fs → fs.lookup f = some x → ∃ v, vs.lookup f = some v ∧ Rep K F v x
  | _, _, .nil, e => by simp at e
  | _, _, .cons (k := k) r t, e => by
    rw [List.lookup_cons] at e ⊢
    cases hk : f == k with
    | true =>
      rw [hk] at e
      cases e
      exact ⟨_, rfl, r⟩
    | false =>
      rw [hk] at e
      exact RepFs.look t e

/-! ### o.f -/
def fldD (fld : Str → Str → Bool) (f : Str) (d : D) (Q : D → Prop) : Prop := ∃ n fs x, d = .obj n fs ∧ fld n f = true ∧ fs.lookup f = some x ∧ Q x
@[simp] theorem fldD_obj (fld : Str → Str → Bool) (f n : Str) (fs : List (Str × D)) (Q : D → Prop) : fldD fld f (.obj n fs) Q ↔ fld n f = true ∧ ∃ x, fs.lookup f = some x ∧ Q x :=
  ⟨fun ⟨_, _, x, e, h1, h2, q⟩ => by cases e; exact ⟨h1, x, h2, q⟩, fun ⟨h1, x, h2, q⟩ => ⟨_, _, x, rfl, h1, h2, q⟩⟩
@[simp] def gFld (fld : Str → Str → Bool) (f : Str) (fa : GE) (σ : List SV) (Q : D → Prop) : Prop := fa σ fun d => fldD fld f d Q
section
variable {B : Bs} {X : Cx} {e : Expr} {f : Str} {pos p p2 p3 : Pos} {fa fb : GE} {fld : Str → Str → Bool} {known : Str → Bool} {n : Str}
theorem ed_fld (T : FldTab X.kn fld) (ha : BD B X e fa) (hb : attributeBase e f X.env (eval e X.env) = eval e X.env := by rfl) : ED B X (.Attribute e f pos) (gFld fld f fa) :=
  ⟨pe_imp (pe_fld ha.run hb) fun s H Q ⟨σ, F, Qd, R, q, k⟩ => ⟨σ, F, _, R, q, fun d ⟨n, fs, x, ed, hf, hl, qx⟩ F1 H1 v g1 d1 r1 => by
    subst ed
    obtain ⟨a, C, dx, vs, hm, rfl, h1, rf⟩ := r1.obj g1.fh
    obtain ⟨C', hm', cl, na⟩ := T n f hf
    have eC : C = C' := Value.ref.inj (Option.some.inj (hm.symm.trans hm'))
    subst eC
    obtain ⟨w, hw, rw_⟩ := rf.look hl
    exact ⟨a, C, dx, vs, w, rfl, h1, cl, na, hw, k x qx F1 H1 w g1 d1 rw_⟩⟩⟩

/-! ### isinstance -/
/-- a value whose type is known -/
def tyX (known : Str → Bool) : D → Bool
  | .obj m _ => known m
  | x => (tyD x).isSome
theorem RepB.tyo {W : WT} {K : Kn} {F H : Hp} {v : V} {x : D} (h : RepB W K F H v x) (e : Same F H) (T : ObTab K known) (hx : tyX known x = true) :
    ∃ t, TyX K.K H v t ∧ ((∃ s, tyD x = some s ∧ s ∈ tyL ∧ t = .type s) ∨ ∃ m fs C, x = .obj m fs ∧ known m = true ∧ K.mg m = some (.ref C) ∧ t = .ref C) := by
  by_cases ht : (tyD x).isSome = true
  · obtain ⟨s, hs⟩ := Option.isSome_iff_exists.mp ht
    exact ⟨.type s, h.tyx e hs, .inl ⟨s, hs, tyD_mem hs, rfl⟩⟩
  · cases x with
    | obj m fs =>
      obtain ⟨C, O⟩ := T.ob m hx
      obtain ⟨a, C', dx, vs, hm, rfl, h1, rf⟩ := h.obj e
      have eC : C' = C := Value.ref.inj (Option.some.inj (hm.symm.trans O.mg))
      subst eC
      exact ⟨.ref C', .base (.ins h1 O.cl O.ha O.hn O.tk O.mo), .inr ⟨m, fs, C', rfl, hx, hm, rfl⟩⟩
    | _ => exact absurd hx ht
/-- isinstance with a built-in type, of any value -/
def isiX (known : Str → Bool) : List D → (D → Prop) → Prop
  | [x, .opq (.ty T)], Q => knownT T = true ∧ tyX known x = true ∧ Q (.bl (isiB T x))
  | _, _ => False
theorem c_isiX (T : ObTab X.kn known) : CallR X (.builtin "isinstance") (LCa B X.kn (isiX known)) := callR_by fun vs H Q ⟨F, ds, Qd, e, dk, r, q, k⟩ => by
  unfold isiX at q
  split at q
  · rename_i x S
    obtain ⟨v, u, rfl, r1, r2⟩ := rb2 r
    obtain ⟨h1, h2, h3⟩ := q
    have hu := r2.opq
    subst hu
    have mT : S ∈ ["int", "bool", "str", "tuple", "list", "dict"] := by
      simp only [knownT, Bool.or_eq_true, beq_iff_eq] at h1
      rcases h1 with ((((h | h) | h) | h) | h) | h <;> subst h <;> simp
    obtain ⟨t, ty, ht⟩ := r1.tyo e T h2
    refine ⟨_, call_isi, v, .ty S, t, .type S, isiB S x, rfl, .ty S, ty, ?_, k.here e dk h3 (.bl _)⟩
    rcases ht with ⟨z, hz, hm', rfl⟩ | ⟨m, fs, C', rfl, hk', hm', rfl⟩
    · have : isiB S x = isTb z S := by unfold isiB; rw [hz]
      rw [this]
      exact kit_ty (kitB_all z hm' S mT)
    · refine T.tb m C' hk' hm' S ?_
      simp only [List.mem_cons, List.not_mem_nil, or_false] at mT
      rcases mT with h | h | h | h | h | h <;> subst h <;> simp [tyL]
  · exact q.elim
end
end ND

/-! ND32: == by one's own __eq__; makers -/
namespace ND
open PySem PySem.Spec L2
open PyProof.Rows (envOfC)

/-! ### == -/
section
variable {B : Bs} {X : Cx} {known : Str → Bool} {k : Nat} {a b : Expr} {fa fb : GE} {g : D → D → (D → Prop) → Prop} {pos : Pos}
end

/-! ### makers -/
/-- what __init__ promises: sp's answer is the object itself -/
def liftInit (K : Kn) (T : List (Addr × Str)) (C : Addr) (sp : DSp) : Sp := fun vs H Q E => ∃ (x dx : Addr) (H0 : Hp) (us : List V) (W : WD) (F : Hp) (ds : List D) (Qd : D → Prop) (Rd : Er → Prop),
  vs = .ref x :: us ∧ H0 x = none ∧ H0 dx = none ∧ dx ≠ x ∧ H = upd (upd H0 dx (.own x)) x (.ins C dx []) ∧ Same F H0 ∧ DeckIn ⟨W, T⟩ F H0 ∧ Reps K F us ds ∧ sp W ds Qd Rd ∧
  (∀ d, Qd d → ∀ F' H', Grow ⟨W, T⟩ F H0 F' H' → DeckIn ⟨W, T⟩ F' H' → Rep K F' (.ref x) d → Q .non H') ∧ FinE ⟨W, T⟩ K F H0 Rd E
def startI (N : Nat) (x : Addr) (n : Str) (ds : List D) : List SV := .oo x n [] :: startD (N - 1) ds
/-- behind __init__'s body -/
@[simp] def endsI (x : Addr) (n : Str) (Q : D → Prop) : Ed := { nx := fun σ => ∃ fs, σ[0]? = some (.oo x n fs) ∧ Q (.obj n fs), rt := fun _ => False, bk := fun _ => False, ct := fun _ => False }
def putFD (f : Str) (v : D) : List (Str × D) → List (Str × D)
  | [] => [(f, v)]
  | (g, x) :: r => if g = f then (g, v) :: r else (g, x) :: putFD f v r
theorem RepFs.put {K : Kn} {F : Hp} {f : Str} {y : V} {d : D} (r : Rep K F y d) : ∀ {vs : List (Str × V)} {fs : List (Str × D)}, RepFs K F vs fs → RepFs K F (L2.putF f y vs) (putFD f d fs)
  | _, _, .nil => .cons r .nil
  | _, _, .cons (k := k) r' t => by
    unfold L2.putF putFD
    by_cases h : k = f
    · rw [if_pos h, if_pos h]
      exact .cons r t
    · rw [if_neg h, if_neg h]
      exact .cons r' (RepFs.put r t)
theorem RepFs.length {K : Kn} {F : Hp} : ∀ {vs : List (Str × V)} {fs : List (Str × D)}, RepFs K F vs fs → vs.length = fs.length
  | _, _, .nil => rfl
  | _, _, .cons _ t => by rw [List.length_cons, List.length_cons, RepFs.length t]
/-- self.f = e -/
def gSetF (fld : Str → Str → Bool) (k : Nat) (f : Str) (fe : GE) : GS := fun E σ => ∃ x n fs, σ[k]? = some (.oo x n fs) ∧ fld n f = true ∧ fs.length < 1000 ∧ fe σ fun d => E.nx (σ.set k (.oo x n (putFD f d fs)))
section
variable {B : Bs} {X : Cx} {fld : Str → Str → Bool} {o value : Expr} {f : Str} {pos pos' : Pos} {fe : GE} {k : Nat}
theorem sd_setF (T : FldTab X.kn fld) (ho : PE X o (tVar k)) (hv : ED B X value fe) (hs : swapsWith value (some (.Attribute o f pos')) pos.line X.env = pure false := by rfl) : SD B X (.Assign [.Attribute o f pos'] value pos) (gSetF fld k f fe) :=
  ⟨ps_imp (ps_fld ho hv.run hs) fun Dn s H ⟨σ, F, E, R, ⟨x, n, fs, e, hf, hl, q⟩, kk⟩ => by
    obtain ⟨C, dx, vs, h1, hm, h2, h3, h4, h5, h6⟩ := R.ownO e
    refine ⟨σ, F, _, R, q, fun d qd F1 H1 v g1 d1 r1 => ?_⟩
    have R1 := R.grow g1 d1
    obtain ⟨C1, dx1, vs1, k1, km, k2, k3, k4, k5, k6⟩ := R1.ownO e
    obtain ⟨C', hm', cl, na⟩ := T n f hf
    have eC : C1 = C' := Value.ref.inj (Option.some.inj (km.symm.trans hm'))
    subst eC
    refine ⟨.ref x, k1, x, C1, dx1, vs1, rfl, k2, cl, na, by rw [k3.length]; exact hl, ?_⟩
    exact kk.nx _ _ F1 _ g1.ff (R1.write e (.inr (.inr ⟨_, _, _, rfl⟩)) k1 (x := .oo x n (putFD f d fs)) ⟨rfl, rfl, C1, dx1, _, km, upd_same, k3.put r1⟩) qd⟩
end
theorem rel_startI {W : WT} {K : Kn} {F H0 : Hp} {N : List Str} {vs : List V} {ds : List D} {x dx C : Addr} {n : Str} (e : Same F H0) (dk : DeckIn W F H0) (r : Reps K F vs ds) (hn : 0 < N.length) (hx : H0 x = none) (hdx : H0 dx = none) (ne : dx ≠ x) (hm : K.mg n = some (.ref C)) :
    Rel ⟨W, F, H0⟩ K (startI N.length x n ds) (L2.start N (.ref x :: vs)) F (upd (upd H0 dx (.own x)) x (.ins C dx [])) := by
  have hx2 : upd H0 dx (.own x) x = none := by rw [upd_ne (Ne.symm ne)]; exact hx
  have g1 : Grow W F H0 F (upd H0 dx (.own x)) := Grow.laid e hdx
  have d1 : DeckIn W F (upd H0 dx (.own x)) := dk.laid hdx
  have g2 : Grow W F (upd H0 dx (.own x)) F (upd (upd H0 dx (.own x)) x (.ins C dx [])) := Grow.laid g1.fh hx2
  have d2 : DeckIn W F (upd (upd H0 dx (.own x)) x (.ins C dx [])) := d1.laid hx2
  refine ⟨g1.trans g2, dk, d2, ?_, fun i => if i = 0 then some x else none, ⟨fun i j a e1 e2 => ?_, fun i a z => ?_⟩, fun i y v e1 e2 => ?_⟩
  · unfold startI startD L2.start
    simp [r.length]
    omega
  · split at e1 <;> split at e2 <;> first | (cases e1; done) | (cases e2; done) | (subst_vars; rfl)
  · split at z
    · cases z
      exact ⟨hx, e.free hx⟩
    · cases z
  · cases i with
    | zero =>
      simp [startI] at e1
      simp [L2.start] at e2
      subst e1 e2
      exact ⟨rfl, rfl, C, dx, [], hm, upd_same, .nil⟩
    | succ i =>
      simp only [Nat.add_one_ne_zero, if_false]
      unfold startI startD at e1
      unfold L2.start at e2
      rw [List.getElem?_cons_succ] at e1
      have e2' : (vs.map some ++ List.replicate (N.length - (vs.length + 1)) none)[i]? = some v := by simpa using e2
      by_cases hi : i < ds.length
      · rw [List.getElem?_append_left (by simpa using hi)] at e1
        rw [List.getElem?_append_left (by simpa [r.length] using hi)] at e2'
        rw [List.getElem?_map] at e1 e2'
        cases ed : ds[i]? with
        | none =>
          rw [ed] at e1
          cases e1
        | some d =>
          rw [ed] at e1
          obtain ⟨u, h1, h2⟩ := r.get ed
          rw [h1] at e2'
          cases e1
          cases e2'
          exact h2
      · rw [List.getElem?_append_right (by simpa using hi)] at e1
        rw [List.getElem?_append_right (by simpa [r.length] using hi)] at e2'
        have h1 := List.eq_of_mem_replicate (List.mem_of_getElem? e1)
        have h2 := List.eq_of_mem_replicate (List.mem_of_getElem? e2')
        subst h1 h2
        exact True.intro
section
variable {P : Program} {w : World} {K : PySem.W.Frag} {mg : Str → Option Value} {base : Heap} {n qual : Str} {st : Stmt} {f C : Addr} {fd : FuncData} {N ps : List Str} {k : Nat} {sp : DSp} {g : WD → (Er → Prop) → GS} {T : List (Addr × Str)} {dvs : List V}
theorem okInit (hm : mg n = some (.ref C)) (F : FunD K "__init__" qual (defArgs st) (defBody st) (defScope st) dvs [] f fd) (S : FnScope N ("self" :: ps) (defScope st)) (hN : 0 < N.length) (hlen : ∀ W ds Q R, sp W ds Q R → ds.length = ps.length)
    (body : ∀ (cdv : Value) (A : Around) (outer : List Env) (s : Shared) (H : Hp) (E : XK) (W : WD) (F H0 : Hp) (R : Er → Prop), Room k (A.deeper (envOfC qual (defScope st) s.heap.objs.size f cdv)) → FinE ⟨W, T⟩ ⟨K, mg⟩ F H0 R E →
      PassesOwn (model P w) (cxD P w K mg base N qual st f cdv A outer s H E).A (cxD P w K mg base N qual st f cdv A outer s H E).env (cxD P w K mg base N qual st f cdv A outer s H E).xe →
      Passes (L2.CX P w) (cxD P w K mg base N qual st f cdv A outer s H E) E → SDs ⟨⟨W, T⟩, F, H0⟩ (cxD P w K mg base N qual st f cdv A outer s H E) (defBody st) (g W R))
    (law : ∀ W ds Q R x, sp W ds Q R → g W R (endsI x n Q) (startI N.length x n ds)) : FnOk P w K mg base (L2.CX P w) (k + 1) f fd ("self" :: ps) (liftInit ⟨K, mg⟩ T C sp) := by
  refine F.ok S (fun vs H Q E ⟨x, dx, H0, us, W, F, ds, Qd, Rd, e1, h1, h2, h3, h4, h5, h6, h7, h8, _⟩ => ?_) fun cdv A outer s H vs Q E hr ⟨x, dx, H0, us, W, F, ds, Qd, Rd, e1, h1, h2, h3, h4, h5, h6, h7, h8, h9, h10⟩ => ?_
  · rw [e1, List.length_cons, List.length_cons, h7.length, hlen _ _ _ _ h8]
  · subst e1 h4
    have hb := body cdv A outer s (upd (upd H0 dx (.own x)) x (.ins C dx [])) E W F H0 Rd hr h10 (passes_of rfl) (passes_call (takes_of rfl rfl rfl rfl) fun _ _ _ _ z => z)
    refine ⟨_, hb.run, startI N.length x n ds, F, endsI x n Qd, rel_startI h5 h6 h7 hN h1 h2 h3 hm, law W ds Qd Rd x h8, ?_⟩
    refine ⟨fun σ s F' H' _ R' ⟨fs, z, qd⟩ => ?_, fun _ _ _ _ _ _ _ z => z.elim, fun _ _ _ _ _ _ z => z.elim, fun _ _ _ _ _ _ z => z.elim⟩
    obtain ⟨C', dx', vs, k1, km, k2, k3, k4, k5, k6⟩ := R'.ownO z
    have g := R'.base.freeze h1 k5 k2
    exact h9 _ qd _ _ g (h6.freeze R'.deck h1) (.obj km upd_same (k3.mono (same_new k5)))
end

/-- n(..) makes an object, and keeps sp -/
structure OkM (P : Program) (w : World) (K : PySem.W.Frag) (mg : Str → Option Value) (base : Heap) (T : List (Addr × Str)) (n qual : Str) (st : Stmt) (k : Nat) (ps : List Str) (dfl : List D) (sp : DSp) : Prop where
  ex : ∃ C f fd dvs, mg n = some (.ref C) ∧ Mk K C f ∧ FunD K "__init__" qual (defArgs st) (defBody st) (defScope st) dvs [] f fd ∧ dvs ≠ [] ∧ (∀ F, Reps ⟨K, mg⟩ F dvs dfl) ∧ FnOk P w K mg base (L2.CX P w) k f fd ("self" :: ps) (liftInit ⟨K, mg⟩ T C sp)
/-- the positional values, the defaults, the keywords' values, in the order pm -/
def perm3 {α : Type} (n d m : Nat) (pm : List Nat) (us its ws : List α) : List α := if us.length = n ∧ its.length = d ∧ ws.length = m then pm.filterMap fun i => (us ++ (its ++ ws))[i]? else []
theorem perm3_self {α : Type} {n d m : Nat} {pm : List Nat} {x : α} {us its ws : List α} (h1 : us.length = n) (h2 : its.length = d) (h3 : ws.length = m) : perm3 (n + 1) d m (0 :: pm.map (· + 1)) (x :: us) its ws = x :: perm3 n d m pm us its ws := by
  unfold perm3
  rw [if_pos ⟨by rw [List.length_cons, h1], h2, h3⟩, if_pos ⟨h1, h2, h3⟩]
  simp [List.filterMap_map, Function.comp_def]
theorem paired_perm3 {α β : Type} {R : α → β → Prop} {n d m : Nat} {pm : List Nat} {us its ws : List α} {us' its' ws' : List β} (h : Paired R us us') (h2 : Paired R its its') (h3 : Paired R ws ws') : Paired R (perm3 n d m pm us its ws) (perm3 n d m pm us' its' ws') := by
  unfold perm3
  rw [paired_len h, paired_len h2, paired_len h3]
  split
  · exact paired_pick (paired_app h (paired_app h2 h3)) pm
  · exact .nil
abbrev BindsM (qual : Str) (st : Stmt) (ps : List Str) (n d : Nat) (ks : List Str) (pm : List Nat) : Prop := ∀ (T : Addr) (kV doc pmv : Value) (an : Option Addr) (cdv ct : Value) (us its ws : List Value), us.length = n + 1 → its.length = d → ws.length = ks.length →
  ∃ k, bindArgs (PySem.W.fnOf "__init__" qual (defArgs st) (defBody st) (defScope st) (.ref T) kV doc pmv an cdv ct) ⟨us, ks.zip ws⟩ = seqItems? (.ref T) >>= k ∧ k (some its.toArray) = pure (((("self" : Str) :: ps) : List Str).zip (perm3 (n + 1) d ks.length (0 :: pm.map (· + 1)) us its ws))
@[simp] def gMake (sp : DSp) (dfl : List D) (n m : Nat) (pm : List Nat) (W : WD) (R : Er → Prop) (fs fk : GA) (σ : List SV) (Q : D → Prop) : Prop := fs σ fun us => fk σ fun ws => us.length = n ∧ ws.length = m ∧ sp W (perm3 n dfl.length m pm us dfl ws) Q R
section
variable {B : Bs} {X : Cx} {k n m : Nat} {ps ks : List Str} {dfl : List D} {sp : DSp} {R : Er → Prop} {E : XK} {x qual : Str} {st : Stmt} {p pos : Pos} {e : Expr} {es : List Expr} {kws : List Keyword} {fs fk : GA} {pm : List Nat}
theorem kbn_of {K : PySem.W.Frag} {f : Addr} {fd : FuncData} {dvs : List V} (F : FunD K "__init__" qual (defArgs st) (defBody st) (defScope st) dvs [] f fd) (hd : dvs ≠ []) (b : BindsM qual st ps n dvs.length ks pm) :
    ∃ its : List Value, KBn K fd ("self" :: ps) (n + 1) ks (fun us ws => perm3 (n + 1) dvs.length ks.length (0 :: pm.map (· + 1)) us its ws) (fun vs zs => perm3 (n + 1) dvs.length ks.length (0 :: pm.map (· + 1)) vs dvs zs) :=
  F.kbindsD (n + 1) ks (fun {α} us its ws => perm3 (n + 1) dvs.length ks.length (0 :: pm.map (· + 1)) us its ws) hd (fun r1 r2 r3 => paired_perm3 r1 r2 r3) b
theorem la_make {K : Kn} {C : Addr} {dvs : List V} {s : L2.St} {σ : List SV} {F H : Hp} {Qd : D → Prop} {Q : VK} (hE : FinE B.W K B.F B.H R E) (hd : ∀ F, Reps K F dvs dfl) (hk : ks.length = m) (Rl : Rel B K σ s F H) (q : gMake sp dfl n m pm B.W.p R fs fk σ Qd) (kf : Fin B K F H Qd Q) :
    tMakeN C n ks.length (liftInit K B.W.T C sp) (fun vs zs => perm3 (n + 1) dvs.length ks.length (0 :: pm.map (· + 1)) vs dvs zs) E (LA B K fs) (LA B K fk) s H Q :=
  ⟨σ, F, _, Rl, q, fun us qus F1 H1 vs g1 d1 r1 => ⟨σ, F1, _, Rl.grow g1 d1, qus, fun ws ⟨l1, l2, qws⟩ F2 H2 zs g2 d2 r2 => by
    have e1 : vs.length = n := r1.length.trans l1
    have e2 : zs.length = ks.length := (r2.length.trans l2).trans hk.symm
    have e3 : dvs.length = dfl.length := (hd F).length
    refine ⟨e1, e2, fun x dx h1 h2 h3 => ?_⟩
    show liftInit K B.W.T C sp (perm3 (n + 1) dvs.length ks.length (0 :: pm.map (· + 1)) (V.ref x :: vs) dvs zs) _ _ E
    rw [perm3_self e1 rfl e2]
    have rr : Reps K F2 (perm3 n dvs.length ks.length pm vs dvs zs) (perm3 n dfl.length m pm us dfl ws) := by
      rw [e3, hk]
      exact Reps.of_pair (paired_perm3 (r1.mono g2.ff).pair (hd F2).pair r2.pair)
    exact ⟨x, dx, H2, _, B.W.p, F2, _, Qd, R, rfl, h1, h2, h3, rfl, g2.fh, d2, rr, qws, fun d qd F3 H3 g3 d3 r3 => ⟨rfl, kf d qd F3 H3 _ ((g1.trans g2).trans g3) d3 r3⟩, hE.more ((Rl.base.trans g1).trans g2)⟩⟩⟩
theorem ed_make (O : OkM X.prog X.w X.K X.mg X.base B.W.T x qual st k ps dfl sp) (hk : ks.length = m) (b : BindsM qual st ps n dfl.length ks pm) (hr : Room (k + 1) X.A) (hx : Passes (L2.CX X.prog X.w) X E) (hE : FinE B.W X.kn B.F B.H R E) (ha : AD B X (e :: es) fs) (hkw : KD B X kws fk) (hg : Gl X x := by rfl)
    (hall : (backToKw pos (keywordEach kws X.env)).all (·.1.isSome) = true := by rfl) (hks : (backToKw pos (keywordEach kws X.env)).filterMap (·.1) = ks := by rfl)
    (hdb : (x == ("__debug__" : Str)) = false := by decide) (he : starEach (e :: es) X.env = (false, eval e X.env) :: starEach es X.env := by rfl)
    (hpl : ((backTo pos (starEach (e :: es) X.env)).any (·.1) || (backToKw pos (keywordEach kws X.env)).any (·.1.isNone)) = false := by rfl) : ED B X (.Call (.Name x p) (e :: es) kws pos) (gMake sp dfl n m pm B.W.p R fs fk) := by
  obtain ⟨C, f, fd, dvs, hm, M, F, hd, hD, G⟩ := O.ex
  have el : dvs.length = dfl.length := (hD B.F).length
  rw [← el] at b
  obtain ⟨its, kb⟩ := kbn_of F hd b
  exact ⟨pe_imp (pe_makeN M G hr hg hm kb hx ha.run hkw.run hall hks hdb he hpl) fun s H Q ⟨σ, F, Qd, Rl, q, kf⟩ => la_make hE hD hk Rl q kf⟩
end
end ND

/-! ND33: sorted of tuples of integers; constants of the module -/
namespace ND
open PySem PySem.Spec L2
open PyProof.Rows (envOfC)

/-! ### the order of lists of integers -/
def lexI : List Int → List Int → Bool
  | x :: xs, y :: ys => if x = y then lexI xs ys else decide (x < y)
  | [], _ :: _ => true
  | _, [] => false
theorem lexI_asym : ∀ {xs ys : List Int}, lexI xs ys = true → lexI ys xs = false
  | [], [], h => by simp [lexI] at h
  | [], _ :: _, _ => by simp [lexI]
  | _ :: _, [], h => by simp [lexI] at h
  | x :: xs, y :: ys, h => by
    unfold lexI at h ⊢
    by_cases e : x = y
    · rw [if_pos e] at h
      rw [if_pos e.symm]
      exact lexI_asym h
    · rw [if_neg e] at h
      rw [if_neg (fun z => e z.symm)]
      have := of_decide_eq_true h
      exact decide_eq_false (by omega)
theorem lexI_tot : ∀ {xs ys : List Int}, lexI xs ys = false → lexI ys xs = false → xs = ys
  | [], [], _, _ => rfl
  | [], _ :: _, h, _ => by simp [lexI] at h
  | _ :: _, [], _, h => by simp [lexI] at h
  | x :: xs, y :: ys, h, h' => by
    unfold lexI at h h'
    by_cases e : x = y
    · rw [if_pos e] at h
      rw [if_pos e.symm] at h'
      rw [e, lexI_tot h h']
    · rw [if_neg e] at h
      rw [if_neg (fun z => e z.symm)] at h'
      have := of_decide_eq_false h
      have := of_decide_eq_false h'
      omega
theorem lexI_tr : ∀ {xs ys zs : List Int}, lexI ys xs = false → lexI zs ys = false → lexI zs xs = false
  | [], ys, zs, h1, h2 => by
    cases zs with
    | nil => simp [lexI]
    | cons z zs => simp [lexI]
  | x :: xs, [], zs, h1, h2 => by simp [lexI] at h1
  | x :: xs, y :: ys, [], h1, h2 => by simp [lexI] at h2
  | x :: xs, y :: ys, z :: zs, h1, h2 => by
    unfold lexI at h1 h2 ⊢
    by_cases e1 : y = x
    · rw [if_pos e1] at h1
      by_cases e2 : z = y
      · rw [if_pos e2] at h2
        rw [if_pos (e2.trans e1)]
        exact lexI_tr h1 h2
      · rw [if_neg e2] at h2
        rw [if_neg (fun e => e2 (e.trans e1.symm))]
        have := of_decide_eq_false h2
        exact decide_eq_false (by omega)
    · rw [if_neg e1] at h1
      have a1 := of_decide_eq_false h1
      by_cases e2 : z = y
      · rw [if_neg (fun e => e1 (e2.symm.trans e))]
        exact decide_eq_false (by omega)
      · rw [if_neg e2] at h2
        have a2 := of_decide_eq_false h2
        rw [if_neg (by omega)]
        exact decide_eq_false (by omega)
theorem swo_lexI {α : Type} (k : α → List Int) : SrtO.Swo fun v u => lexI (k v) (k u) := ⟨fun _ _ h => lexI_asym h, fun _ _ _ h1 h2 => lexI_tr h1 h2⟩

section
variable {prog : Program} {w : World} {A : Around} {E : Value → Shared → Prop} {s : Shared} {Q : Bool → Shared → Prop}
theorem lex_intsI {b : Bool} {xs ys : List Value} {ns ms : List Int} (i : Nat) (hx : PyProof.Rows.IntsAre xs ns) (hy : PyProof.Rows.IntsAre ys ms) (hl : ns.length = ms.length)
    (h : Q (lexI ns ms) s) : PySem.W.KatLex prog w A b false Q (xs.zip ys) i s := by
  induction hx generalizing ys ms i with
  | nil =>
    cases hy with
    | nil => exact PySem.W.kat_nil h
    | cons q u hy => simp at hl
  | @cons p t xs ns hx ih =>
    cases hy with
    | nil => simp at hl
    | @cons q u ys ms hy =>
      have hl' : ns.length = ms.length := by simpa using hl
      show PySem.W.KatLex prog w A b false Q ((Value.int p t, Value.int q u) :: xs.zip ys) i s
      refine PySem.W.kat_cons (wpAny_eqBool_int ?_)
      unfold lexI at h
      by_cases e : p = q
      · subst e
        rw [beq_self_eq_true]
        rw [if_pos rfl] at h
        refine PySem.W.kat_yes ?_
        first
          | exact ih (i + 1) hy hl' h
          | exact ih _ _ (i + 1) hy hl' h
      · rw [show (p == q) = false from beq_eq_false_iff_ne.mpr e]
        rw [if_neg e] at h
        exact PySem.W.kat_no (_root_.TS.oneLt_ints _ h)
/-- tuples of d integers each -/
def TupsI (h : Heap) (d : Nat) (vs : List Value) : Prop := ∀ v, v ∈ vs → ∃ ns, _root_.TS.TupInts h v ns ∧ ns.length = d
theorem firstsI {h : Heap} {d : Nat} (hd : 1 ≤ d) : ∀ vs : List Value, TupsI h d vs → ∃ fs, PySem.W.KatTups h vs fs ∧ fs.length = vs.length ∧ ∀ f, f ∈ fs → ∃ n t, f = Value.int n t
  | [], _ => ⟨[], PySem.W.KatTups.nil, rfl, fun f hf => by simp at hf⟩
  | v :: vs, x => by
    obtain ⟨fs, k, hl, hi⟩ := firstsI hd vs fun u hu => x u (List.mem_cons_of_mem _ hu)
    obtain ⟨ns, ⟨a, xs, rfl, ⟨o, ho, hc, n, hdt⟩, i⟩, hn⟩ := x v (List.mem_cons_self ..)
    obtain ⟨y, ys, e⟩ : ∃ y ys, xs.toList = y :: ys := by
      cases q : xs.toList with
      | nil =>
        rw [q] at i
        have l := i.length
        rw [List.length_nil, hn] at l
        omega
      | cons y ys => exact ⟨y, ys, rfl⟩
    obtain ⟨m, t, hy⟩ := i.all y (by rw [e]; exact List.mem_cons_self ..)
    refine ⟨y :: fs, PySem.W.KatTups.cons ho hc hdt ?_ k, by simp [hl], ?_⟩
    · have z := congrArg (fun l : List Value => l[0]?) e
      simpa using z
    · intro f hf
      rcases List.mem_cons.mp hf with rfl | hf
      · exact ⟨m, t, hy⟩
      · exact hi f hf
theorem sortableI {a : Addr} {vs : List Value} {d : Nat} (hd : 1 ≤ d) (h0 : 0 < vs.length) (hp : TupsI s.heap d vs) (k : Value → List Int) (hk : ∀ v ∈ vs, ∀ ns, _root_.TS.TupInts s.heap v ns → k v = ns) (ha : ∀ o, s.heap.get? a = some o → o.cls ≠ .type "tuple") : SrtO.SortableO prog w A s a vs fun v u => lexI (k v) (k u) := by
  intro h' keep
  have kp : ∀ b o, s.heap.get? b = some o → o.cls = .type "tuple" → h'.get? b = some o := fun b o e c => keep b o (fun z => by subst z; exact ha o e c) e
  have hp' : TupsI h' d vs := fun v hv => let ⟨ns, t, r⟩ := hp v hv; ⟨ns, t.keeps kp, r⟩
  obtain ⟨fs, h1, h2, h3⟩ := firstsI hd vs hp'
  refine ⟨PyProof.Rows.tuples' true, fun Q E hq => ?_, fun p q hm hm' => ?_⟩
  · refine PySem.W.kat_kind (T := .type "int") h1 (by omega) (fun f hm => ?_) (by rfl) ?_
    · obtain ⟨x, t, rfl⟩ := h3 f hm
      exact PySem.W.Looks.now
    · have e : (Value.type "int" != Value.type "tuple") = true := by first | decide +kernel | rfl | decide
      rw [e]
      exact hq
  · obtain ⟨ns, tp, lp⟩ := hp _ hm
    obtain ⟨ms, tq, lq⟩ := hp _ hm'
    show wpAny (model prog w) A (PyProof.Rows.keyLt' (PyProof.Rows.tuples' true) p.1 q.1) (fun r s' => s' = { s with heap := h' } ∧ r = lexI (k p.1) (k q.1)) (fun _ _ => False) { s with heap := h' }
    rw [hk _ hm _ tp, hk _ hm' _ tq]
    obtain ⟨a1, xs, e1, ⟨o, ho, hc, n, hdt⟩, i⟩ := tp.keeps kp
    obtain ⟨a2, ys, e2, ⟨o', ho', hc', n', hdt'⟩, i'⟩ := tq.keeps kp
    rw [e1, e2]
    refine PySem.W.kat_lt ho hdt ho' hdt' ?_
    have sz : decide (xs.size < ys.size) = false := by
      have l1 := i.length
      have l2 := i'.length
      rw [Array.length_toList] at l1 l2
      exact decide_eq_false (by omega)
    rw [sz]
    exact lex_intsI 0 i i' (by omega) ⟨rfl, rfl⟩
end

/-! ### sorted(xs), xs a list of tuples of d integers each -/
theorem perm_reps {K : Kn} {F : Hp} {ys xs : List V} (p : ys.Perm xs) : ∀ {ds : List D}, Reps K F xs ds → ∃ es : List D, es.Perm ds ∧ Reps K F ys es := by
  induction p with
  | nil =>
    intro ds r
    cases r
    exact ⟨[], .refl _, .nil⟩
  | cons x _ ih =>
    intro ds r
    cases r with
    | cons r t =>
      obtain ⟨es, pe, re⟩ := ih t
      exact ⟨_ :: es, pe.cons _, .cons r re⟩
  | swap x y l =>
    intro ds r
    cases r with
    | cons r t =>
      cases t with
      | cons r2 t => exact ⟨_, List.Perm.swap _ _ _, .cons r2 (.cons r t)⟩
  | trans _ _ ih1 ih2 =>
    intro ds r
    obtain ⟨es, pe, re⟩ := ih2 r
    obtain ⟨es', pe', re'⟩ := ih1 re
    exact ⟨es', pe'.trans pe, re'⟩
def TupV (K : PySem.W.Frag) (H : Hp) (x : V) (ns : List Int) : Prop := ∃ t, x = .ref t ∧ SqT K H t (ns.map V.int)
def rSortV (K : PySem.W.Frag) : List V → Hp → VK → Prop := fun vs H Q => ∃ (a : Addr) (xs : List V) (d : Nat), vs = [V.ref a] ∧ SqL K H a xs ∧ 1 ≤ d ∧ (∀ x ∈ xs, ∃ ns, TupV K H x ns ∧ ns.length = d) ∧
  ∀ (ys : List V) (p : Addr), ys.Perm xs → ys.Pairwise (fun x y => ∀ n m, TupV K H x n → TupV K H y m → lexI m n = false) → H p = none → Q (.ref p) (upd H p (.lst ys))
section
variable {X : Cx} {B : Bs}
theorem tupV_raw {pins : List (Addr × Obj)} {σ : L2.St} {H : Hp} {s : Shared} (I : Inv X pins σ H s) {t : Addr} {ns : List Int} (h : SqT X.K H t (ns.map V.int)) : _root_.TS.TupInts s.heap (.ref t) ns := by
  obtain ⟨its, rv, hT, _⟩ := I.tuple h
  exact ⟨t, its.toArray, rfl, hT, by simpa using rv.ints⟩
theorem cr_sortV : CallR X (.builtin "sorted") (rSortV X.K) := by
  intro pins s σ H vs us Q I r h
  obtain ⟨a, xs, d, rfl, hs, hd, hx, q⟩ := h
  obtain ⟨its, rv, hl, hz⟩ := I.list hs
  obtain ⟨u, rfl, ru⟩ := vals1 r
  obtain rfl : u = Value.ref a := ru
  obtain ⟨e1, e2⟩ := refs_back rv fun x m => by
    obtain ⟨ns, ⟨t, e, _⟩, _⟩ := hx x m
    exact ⟨t, e⟩
  have tups : TupsI s.heap d its := fun v hv => by
    obtain ⟨t, rfl⟩ := e2 v hv
    have hm : V.ref t ∈ xs := by rw [e1]; exact List.mem_map.mpr ⟨_, hv, rfl⟩
    obtain ⟨ns, ⟨t', e, ht⟩, hn⟩ := hx _ hm
    cases e
    exact ⟨ns, tupV_raw I ht, hn⟩
  refine SrtO.sorted_ord (swo_lexI (_root_.TS.intsOf s.heap)) hl.isList (by rw [← rv.length]; exact hz) (fun h2 h₁ a ha kk => ?_) fun out hs hb => ?_
  · have tups' : TupsI h₁ d its := fun v hv => let ⟨ns, t, r⟩ := tups v hv; ⟨ns, t.keeps fun b o e _ => (kk b o e).2, r⟩
    refine sortableI (s := { s with heap := h₁ }) hd (by omega) tups' _ (fun v hv ns tn => ?_) fun o e => ?_
    · obtain ⟨ns', t', _⟩ := tups v hv
      rw [t'.ints]
      have t2 := t'.keeps (h' := h₁) fun b o e _ => (kk b o e).2
      exact t2.ints.symm.trans tn.ints
    · have e' : some o = some (PyProof.Rows.seqObj "list" its.toArray 0) := e.symm.trans ha
      cases e'
      intro c
      exact absurd (Value.type.inj c) (by decide)
  · obtain ⟨ep, he'⟩ := PyProof.Rows.sortedAll_at s.heap its out.toArray
    have h3 : ∀ u ∈ out, ∃ a, u = Value.ref a := fun u hu => e2 u (hb.perm.mem_iff.mp hu)
    have hp : (out.map backV).Perm xs := by
      rw [e1]
      exact hb.perm.map backV
    have hlen : (out.map backV).length ≤ sizeLine := by
      rw [hp.length_eq]
      exact hz
    refine ⟨.ref _, upd H (s.heap.objs.size + 1) (.lst (out.map backV)), I.laid (t' := s.toks) (fun _ _ => PyProof.Rows.sortedAll_old) (Nat.le_succ _) ⟨hlen, out, ep, vals_back h3, he'⟩, rfl, q _ _ hp ?_ (I.hok.fresh (Nat.le_succ _))⟩
    rw [List.pairwise_map]
    refine List.Pairwise.imp_of_mem (fun {u v} hu hv huv n m hn hm => ?_) hs
    obtain ⟨t, et, ht⟩ := hn
    obtain ⟨t', et', ht'⟩ := hm
    obtain ⟨au, rfl⟩ := h3 _ hu
    obtain ⟨av, rfl⟩ := h3 _ hv
    cases et
    cases et'
    rw [← (tupV_raw I ht).ints, ← (tupV_raw I ht').ints]
    exact huv
def numL : List D → Option (List Int)
  | [] => some []
  | .int i :: xs => (numL xs).map (i :: ·)
  | _ => none
/-- the integers of a tuple -/
def numsT : D → List Int
  | .tup xs => (numL xs).getD []
  | _ => []
theorem numL_map : ∀ ns : List Int, numL (ns.map D.int) = some ns
  | [] => rfl
  | n :: ns => by simp [numL, numL_map ns]
@[simp] theorem numsT_map (ns : List Int) : numsT (.tup (ns.map D.int)) = ns := by simp [numsT, numL_map]
theorem reps_intsV {K : Kn} {F : Hp} : ∀ {ns : List Int} {vs : List V}, Reps K F vs (ns.map D.int) → vs = ns.map V.int
  | [], _, .nil => rfl
  | n :: ns, _, .cons r t => by
    cases r
    rw [reps_intsV t]
    rfl
theorem Rep.tupV {K : Kn} {F H : Hp} {v : V} {ns : List Int} (h : Rep K F v (.tup (ns.map D.int))) (e : Same F H) : TupV K.K H v ns := by
  cases h with
  | tup h r => exact ⟨_, rfl, same_t e (by rw [← reps_intsV r]; exact h)⟩
def sortT : List D → (List D → Prop) → Prop
  | [.lst xs], Q => (∃ d, 1 ≤ d ∧ ∀ x ∈ xs, ∃ ns : List Int, x = .tup (ns.map D.int) ∧ ns.length = d) ∧ ∀ ys : List D, ys.Perm xs → ys.Pairwise (fun x y => lexI (numsT y) (numsT x) = false) → Q ys
  | _, _ => False
theorem c_sortT : CallR X (.builtin "sorted") (LCf B X.kn sortT) := callR_by fun vs H Q ⟨F, ds, Qd, e, dk, r, q, k⟩ => by
  unfold sortT at q
  split at q
  · obtain ⟨v, rfl, r1⟩ := rb1 r
    obtain ⟨a, us, rfl, st, rs⟩ := r1.lst e
    obtain ⟨⟨d, hd, hx⟩, q⟩ := q
    have each : ∀ x ∈ us, ∃ y ∈ _, Rep X.kn F x y := fun x m => by
      obtain ⟨i, hi, ex⟩ := List.mem_iff_getElem.mp m
      obtain ⟨y, hy, ry⟩ := rs.getV (i := i) (u := x) (by rw [List.getElem?_eq_getElem hi, ex])
      exact ⟨y, List.mem_of_getElem? hy, ry⟩
    refine ⟨_, cr_sortV, a, us, d, rfl, SqL.of st, hd, fun x m => ?_, fun ys p pm pw hp => ?_⟩
    · obtain ⟨y, my, ry⟩ := each x m
      obtain ⟨ns, rfl, hn⟩ := hx y my
      exact ⟨ns, ry.tupV e, hn⟩
    · obtain ⟨es, pe, re⟩ := perm_reps pm rs
      refine k.laid e dk (q es pe ?_) hp re
      rw [List.pairwise_iff_getElem] at pw ⊢
      intro i j hi hj hij
      have li : i < ys.length := by rw [re.length]; exact hi
      have lj : j < ys.length := by rw [re.length]; exact hj
      have z := pw i j li lj hij
      obtain ⟨xi, h1, r1⟩ := re.getV (List.getElem?_eq_getElem li)
      obtain ⟨xj, h2, r2⟩ := re.getV (List.getElem?_eq_getElem lj)
      rw [List.getElem?_eq_getElem hi] at h1
      rw [List.getElem?_eq_getElem hj] at h2
      cases h1
      cases h2
      obtain ⟨ns, e1, _⟩ := hx _ (pe.mem_iff.mp (List.getElem_mem hi))
      obtain ⟨ms, e2, _⟩ := hx _ (pe.mem_iff.mp (List.getElem_mem hj))
      rw [e1] at r1 ⊢
      rw [e2] at r2 ⊢
      rw [numsT_map, numsT_map]
      exact z ns ms (r1.tupV e) (r2.tupV e)
  · exact q.elim
end

/-! ### constants of the module -/
structure GlobC (K : Kn) (x : Str) (d : D) : Prop where
  ex : ∃ v u, K.mg x = some u ∧ RelV v u ∧ ∀ F, Rep K F v d
theorem ed_glob {B : Bs} {X : Cx} {x : Str} {pos : Pos} {d : D} (G : GlobC X.kn x d) (hg : Gl X x := by rfl) (ndb : (x == ("__debug__" : Str)) = false := by decide) : ED B X (.Name x pos) (gC d) := by
  obtain ⟨v, u, hm, rv, r⟩ := G.ex
  exact ed_c (pe_glob hg hm rv ndb) r
theorem rep_ktup {K : Kn} {a : Addr} {dd : Option Addr} {its : Array Value} {n : Nat} {sl : Array (Option Value)} {vs : List V} {ds : List D} (h : K.K.lookup a = some ⟨.type "tuple", dd, .seq its n, sl⟩) (hl : its.size ≤ sizeLine) (hv : Vals vs its.toList) (r : ∀ F, Reps K F vs ds) : ∀ F, Rep K F (.ref a) (.tup ds) :=
  fun F => .tup (.inr ⟨_, its, n, h, rfl, rfl, hl, hv⟩) (r F)
end ND

/-! ND34: what the printed text of a law with objects asks -/
namespace ND
open PySem PySem.Spec L2
open PyProof.Rows (envOfC)
theorem relv_int (i : Int) (t : Tok) : RelV (.int i) (.int i t) := ⟨t, rfl⟩
theorem nbSorted : bootBuiltins "sorted" = some (.builtin "sorted") := by decide +kernel
section
variable {P : Program} {w : World} {K : PySem.W.Frag} {mg : Str → Option Value} {base : Heap} {n qual : Str} {st : Stmt} {f C : Addr} {fd : FuncData} {k : Nat} {sp : DSp} {T : List (Addr × Str)} {known : Str → Bool}
/-- __init__ with defaults -/
theorem fund_mk {oc : Value} {od : Option Addr} {D : Addr} {kV doc pm : Value} {an : Option Addr} {cdv ct : Value} {osl : Array (Option Value)} {o : Obj} {its : List Value} {m : Nat} {dvs : List V}
    (l : K.lookup f = some ⟨oc, od, .func (PySem.W.fnOf "__init__" qual (defArgs st) (defBody st) (defScope st) (.ref D) kV doc pm an cdv ct), osl⟩) (hc : PySem.W.codeIn K cdv qual = true) (kp : PySem.W.keepIn K (.ref f) = true)
    (hd : dvs ≠ []) (lD : K.lookup D = some o) (oD : o.data = .seq its.toArray m) (r : Vals dvs its) :
    FunD K "__init__" qual (defArgs st) (defBody st) (defScope st) dvs [] f (PySem.W.fnOf "__init__" qual (defArgs st) (defBody st) (defScope st) (.ref D) kV doc pm an cdv ct) :=
  ⟨⟨oc, od, .ref D, kV, doc, pm, an, cdv, ct, osl, rfl, l, hc, .inr ⟨hd, D, o, its, m, rfl, lD, oD, r⟩, .inl rfl⟩, kp⟩
end
theorem obtab_one {K : Kn} {n : Str} {C : Addr} (O : ObC K n C) (bt : ∀ t ∈ tyL, PySem.W.kitOne K.K (.type t) (.ref C) = some false) (tb : ∀ t ∈ tyL, PySem.W.kitOne K.K (.ref C) (.type t) = some false)
    (oo : PySem.W.kitOne K.K (.ref C) (.ref C) = some true) (ns : ∀ t ∈ tyL, PySem.W.subIn K.K (.type t) (.ref C) = some false) : ObTab K fun m => m == n := by
  have one : ∀ m C', (m == n) = true → K.mg m = some (.ref C') → m = n ∧ C' = C := fun m C' h e => by
    have := beq_iff_eq.mp h
    subst this
    exact ⟨rfl, Value.ref.inj (Option.some.inj (e.symm.trans O.mg))⟩
  refine ⟨fun m h => ?_, fun m C' h e t ht => ?_, fun m C' h e t ht => ?_, fun m m' C1 C2 h h' e e' => ?_, fun m C' h e t ht => ?_, fun m m' C1 C2 h h' ne e e' => ?_⟩
  · have := beq_iff_eq.mp h
    subst this
    exact ⟨C, O⟩
  · obtain ⟨rfl, rfl⟩ := one m C' h e
    exact bt t ht
  · obtain ⟨rfl, rfl⟩ := one m C' h e
    exact tb t ht
  · obtain ⟨rfl, rfl⟩ := one m C1 h e
    obtain ⟨rfl, rfl⟩ := one m' C2 h' e'
    rw [beq_self_eq_true]
    exact oo
  · obtain ⟨rfl, rfl⟩ := one m C' h e
    exact ns t ht
  · obtain ⟨rfl, rfl⟩ := one m C1 h e
    obtain ⟨rfl, rfl⟩ := one m' C2 h' e'
    rw [beq_self_eq_true] at ne
    cases ne
end ND

/-! ND35: golden numbers (first written for k06, k07) -/
namespace ND
open PySem PySem.Spec L2
theorem five_sq : ∀ (n : Nat) (x b : Nat), b ≤ n → x * x = 5 * b * b → b = 0
  | 0, x, b, h, _ => by omega
  | n + 1, x, b, h, e => by
    have h5 : x % 5 = 0 := by
      have h1 : (x * x) % 5 = 0 := by rw [e, Nat.mul_assoc, Nat.mul_mod_right]
      rw [Nat.mul_mod] at h1
      have h2 : x % 5 < 5 := Nat.mod_lt _ (by decide)
      generalize x % 5 = y at h1 h2 ⊢
      have : y = 0 ∨ y = 1 ∨ y = 2 ∨ y = 3 ∨ y = 4 := by omega
      rcases this with h | h | h | h | h <;> subst h <;> simp_all
    obtain ⟨y, rfl⟩ : ∃ y, x = 5 * y := ⟨x / 5, by omega⟩
    have e2 : b * b = 5 * y * y := by
      have : 5 * y * (5 * y) = 5 * (5 * y * y) := by simp [Nat.mul_assoc, Nat.mul_comm, Nat.mul_left_comm]
      have h3 : 5 * b * b = 5 * (b * b) := Nat.mul_assoc _ _ _
      omega
    by_cases hb : b = 0
    · exact hb
    · have hy : y < b := by
        rcases Nat.lt_or_ge y b with h | h
        · exact h
        · have h1 := Nat.mul_le_mul h h
          have h2 : 5 * y * y = 5 * (y * y) := Nat.mul_assoc _ _ _
          have h3 : 0 < b * b := Nat.mul_pos (by omega) (by omega)
          omega
      have z := five_sq n b y (by omega) e2
      subst z
      have : b * b = 0 := by omega
      exact absurd ((Nat.mul_eq_zero.mp this).elim id id) hb
theorem no_tie {x b : Int} (hb : b ≠ 0) : x * x ≠ 5 * b * b := fun e => by
  have e2 : x.natAbs * x.natAbs = 5 * b.natAbs * b.natAbs := by
    have := congrArg Int.natAbs e
    rw [Int.natAbs_mul, Int.natAbs_mul, Int.natAbs_mul] at this
    exact this
  have := five_sq b.natAbs x.natAbs b.natAbs (Nat.le_refl _) e2
  omega

abbrev tri (a b m : Int) : D := .tup [.int a, .int b, .int m]
/-- the common divisor with the sign of d -/
def cdv (a b d : Int) : Int := if d < 0 then -((Nat.gcd (Nat.gcd a.natAbs b.natAbs) d.natAbs : Nat) : Int) else ((Nat.gcd (Nat.gcd a.natAbs b.natAbs) d.natAbs : Nat) : Int)
/-- the reduced number -/
def red (a b d : Int) : D := tri (a.fdiv (cdv a b d)) (b.fdiv (cdv a b d)) (d.fdiv (cdv a b d))
theorem cdv_ne {a b d : Int} (h : d ≠ 0) : cdv a b d ≠ 0 := by
  have : 0 < Nat.gcd (Nat.gcd a.natAbs b.natAbs) d.natAbs := Nat.gcd_pos_of_pos_right _ (Int.natAbs_pos.mpr h)
  unfold cdv
  split <;> omega
theorem cdv_one (a b : Int) : cdv a b 1 = 1 := by
  unfold cdv
  rw [if_neg (by decide)]
  simp
theorem red_one (a b : Int) : red a b 1 = tri a b 1 := by
  unfold red
  rw [cdv_one, Int.fdiv_one, Int.fdiv_one, Int.fdiv_one]
theorem cdv_dvd (a b d : Int) : cdv a b d ∣ a ∧ cdv a b d ∣ b ∧ cdv a b d ∣ d := by
  have h1 : (((Nat.gcd (Nat.gcd a.natAbs b.natAbs) d.natAbs : Nat) : Int)) ∣ a := Int.ofNat_dvd_left.mpr (Nat.dvd_trans (Nat.gcd_dvd_left _ _) (Nat.gcd_dvd_left _ _))
  have h2 : (((Nat.gcd (Nat.gcd a.natAbs b.natAbs) d.natAbs : Nat) : Int)) ∣ b := Int.ofNat_dvd_left.mpr (Nat.dvd_trans (Nat.gcd_dvd_left _ _) (Nat.gcd_dvd_right _ _))
  have h3 : (((Nat.gcd (Nat.gcd a.natAbs b.natAbs) d.natAbs : Nat) : Int)) ∣ d := Int.ofNat_dvd_left.mpr (Nat.gcd_dvd_right _ _)
  unfold cdv
  split
  · exact ⟨Int.neg_dvd.mpr h1, Int.neg_dvd.mpr h2, Int.neg_dvd.mpr h3⟩
  · exact ⟨h1, h2, h3⟩
theorem fdiv_sz {n : Nat} {a c : Int} (h : Sz n a) (hd : c ∣ a) (hc : c ≠ 0) : Sz n (a.fdiv c) := by
  obtain ⟨k, rfl⟩ := hd
  rw [Int.mul_fdiv_cancel_left _ hc]
  have h1 : (c * k).natAbs < 2 ^ n := h
  rw [Int.natAbs_mul] at h1
  have : 1 ≤ c.natAbs := Int.natAbs_pos.mpr hc
  exact Nat.lt_of_le_of_lt (Nat.le_mul_of_pos_left _ this) h1
theorem cdv_sign {a b d : Int} (h : d ≠ 0) : (d < 0 ∧ cdv a b d < 0) ∨ (0 < d ∧ 0 < cdv a b d) := by
  have : 0 < Nat.gcd (Nat.gcd a.natAbs b.natAbs) d.natAbs := Nat.gcd_pos_of_pos_right _ (Int.natAbs_pos.mpr h)
  unfold cdv
  rcases Int.lt_or_gt_of_ne h with h | h
  · rw [if_pos h]; omega
  · rw [if_neg (by omega)]; omega
theorem fdiv_pos' {a b d : Int} (h : d ≠ 0) : 1 ≤ d.fdiv (cdv a b d) := by
  have hc := cdv_ne (a := a) (b := b) h
  have hs := cdv_sign (a := a) (b := b) h
  obtain ⟨k, e⟩ := (cdv_dvd a b d).2.2
  generalize cdv a b d = c at *
  subst e
  rw [Int.mul_fdiv_cancel_left _ hc]
  rcases hs with ⟨h1, h2⟩ | ⟨h1, h2⟩
  · rcases Int.lt_or_le 0 k with hk | hk
    · exact hk
    · have := Int.mul_nonneg_of_nonpos_of_nonpos (Int.le_of_lt h2) hk
      omega
  · rcases Int.lt_or_le 0 k with hk | hk
    · exact hk
    · have := Int.mul_nonpos_of_nonneg_of_nonpos (Int.le_of_lt h2) hk
      omega
/-- a number below 2^n -/
def Num (n : Nat) (a b d : Int) : Prop := Sz n a ∧ Sz n b ∧ Sz n d ∧ 1 ≤ d
theorem red_num {n : Nat} {a b d : Int} (ha : Sz n a) (hb : Sz n b) (hd : Sz n d) (h : d ≠ 0) : ∃ x y z, red a b d = tri x y z ∧ Num n x y z := by
  obtain ⟨d1, d2, d3⟩ := cdv_dvd a b d
  exact ⟨_, _, _, rfl, fdiv_sz ha d1 (cdv_ne h), fdiv_sz hb d2 (cdv_ne h), fdiv_sz hd d3 (cdv_ne h), fdiv_pos' h⟩
theorem cdv_sz {n : Nat} {a b d : Int} (hd : Sz n d) (h : d ≠ 0) : Sz n (cdv a b d) := by
  obtain ⟨k, e⟩ := (cdv_dvd a b d).2.2
  have hk : k ≠ 0 := fun z => h (by rw [e, z, Int.mul_zero])
  have h1 : d.natAbs < 2 ^ n := hd
  have h2 : d.natAbs = (cdv a b d).natAbs * k.natAbs := by
    conv => lhs; rw [e]
    exact Int.natAbs_mul _ _
  rw [h2] at h1
  exact Nat.lt_of_le_of_lt (Nat.le_mul_of_pos_right _ (Int.natAbs_pos.mpr hk)) h1
/-- Euclid -/
theorem gcd_step {x y : Int} (hx : 0 ≤ x) (hy : 0 < y) : Nat.gcd y.natAbs (x % y).natAbs = Nat.gcd x.natAbs y.natAbs := by
  have e : (x % y).natAbs = x.natAbs % y.natAbs := by
    rw [Int.natAbs_emod_of_nonneg hx]
  rw [e, Nat.gcd_comm y.natAbs, ← Nat.gcd_rec, Nat.gcd_comm]
/-- the norm is zero for zero alone -/
theorem norm_ne {c e : Int} (h : ¬ (c = 0 ∧ e = 0)) : c * c + c * e - e * e ≠ 0 := fun z => by
  have h5 : (2 * c + e) * (2 * c + e) = 5 * e * e := by
    have : (2 * c + e) * (2 * c + e) = 4 * (c * c + c * e - e * e) + 5 * e * e := by
      simp only [Int.mul_add, Int.add_mul, Int.mul_sub, Int.mul_assoc, Int.mul_left_comm _ 2, Int.mul_comm e c]
      omega
    omega
  by_cases he : e = 0
  · subst he
    have : c * c = 0 := by simpa using z
    rcases Int.mul_eq_zero.mp this with h1 | h1 <;> exact h ⟨h1, rfl⟩
  · exact no_tie he h5
theorem Num.up {n m : Nat} {a b d : Int} (h : Num n a b d) (e : n ≤ m) : Num m a b d := ⟨h.1.mono e, h.2.1.mono e, h.2.2.1.mono e, h.2.2.2⟩
theorem Num.ok {n m : Nat} {a b d c e f : Int} (h : Num n a b d) (k : Num m c e f) (l : n + m ≤ 400000) : MulOk a f ∧ MulOk c d ∧ MulOk b f ∧ MulOk e d ∧ MulOk d f ∧ MulOk a c ∧ MulOk b e ∧ MulOk a e ∧ MulOk b c :=
  ⟨h.1.ok k.2.2.1 (by omega), k.1.ok h.2.2.1 (by omega), h.2.1.ok k.2.2.1 (by omega), k.2.1.ok h.2.2.1 (by omega), h.2.2.1.ok k.2.2.1 (by omega), h.1.ok k.1 (by omega), h.2.1.ok k.2.1 (by omega), h.1.ok k.2.1 (by omega), h.2.1.ok k.1 (by omega)⟩
theorem add_sz {n m : Nat} {a b d c e f : Int} (h : Num n a b d) (k : Num m c e f) : Sz (n + m + 1) (a * f + c * d) ∧ Sz (n + m + 1) (b * f + e * d) ∧ Sz (n + m + 1) (d * f) ∧ 1 ≤ d * f :=
  ⟨(h.1.mul k.2.2.1).add ((k.1.mul h.2.2.1).mono (by omega)), (h.2.1.mul k.2.2.1).add ((k.2.1.mul h.2.2.1).mono (by omega)), (h.2.2.1.mul k.2.2.1).mono (by omega), Int.mul_pos h.2.2.2 k.2.2.2⟩
theorem mul_sz {n m : Nat} {a b d c e f : Int} (h : Num n a b d) (k : Num m c e f) : Sz (n + m + 2) (a * c + b * e) ∧ Sz (n + m + 2) (a * e + b * c + b * e) ∧ Sz (n + m + 2) (d * f) ∧ 1 ≤ d * f :=
  ⟨((h.1.mul k.1).add (h.2.1.mul k.2.1)).mono (by omega), ((h.1.mul k.2.1).add (h.2.1.mul k.1)).add ((h.2.1.mul k.2.1).mono (by omega)), (h.2.2.1.mul k.2.2.1).mono (by omega), Int.mul_pos h.2.2.2 k.2.2.2⟩
theorem Num.neg {n : Nat} {a b d : Int} (h : Num n a b d) : Num n (-a) (-b) d := ⟨h.1.neg, h.2.1.neg, h.2.2⟩
theorem Num.one {n : Nat} {a b d : Int} (h : Num n a b d) : Num n a b 1 := ⟨h.1, h.2.1, by
  have h1 : d.natAbs < 2 ^ n := h.2.2.1
  have h2 := h.2.2.2
  show (1 : Int).natAbs < 2 ^ n
  have : (1 : Int).natAbs = 1 := rfl
  omega, by decide⟩
theorem quo_sz {n m : Nat} {a b d c e f : Int} (h : Num n a b d) (k : Num m c e f) : Sz (n + m + 2) (a * (c + e) - b * e) ∧ Sz (n + m + 2) (b * c - a * e) ∧ Sz (m + m + 2) (c * c + c * e - e * e) ∧ Sz (m + 1) (c + e) :=
  ⟨((h.1.mul (k.1.add k.2.1)).sub ((h.2.1.mul k.2.1).mono (by omega))).mono (by omega), ((h.2.1.mul k.1).sub (h.1.mul k.2.1)).mono (by omega), ((k.1.mul k.1).add (k.1.mul k.2.1)).sub ((k.2.1.mul k.2.1).mono (by omega)), k.1.add k.2.1⟩
/-- the sign of a + b g -/
def psg (a b : Int) : Int :=
  if 0 ≤ 2 * a + b ∧ 0 ≤ b then (if 0 < 2 * a + b ∨ 0 < b then 1 else 0)
  else if 2 * a + b ≤ 0 ∧ b ≤ 0 then -1
  else if 0 < 2 * a + b then (if 5 * b * b < (2 * a + b) * (2 * a + b) then 1 else -1)
  else if 5 * b * b < (2 * a + b) * (2 * a + b) then -1 else 1
theorem psg_neg (a b : Int) : psg (-a) (-b) = -psg a b := by
  have e : 2 * -a + -b = -(2 * a + b) := by omega
  have e2 : 5 * -b * -b = 5 * b * b := by rw [Int.mul_neg, Int.mul_neg, Int.neg_mul, Int.neg_neg]
  unfold psg
  rw [e, e2, Int.neg_mul_neg]
  generalize 2 * a + b = x
  by_cases h : 5 * b * b < x * x
  · rw [if_pos h, if_pos h]
    repeat' split
    all_goals first | rfl | omega
  · rw [if_neg h, if_neg h]
    repeat' split
    all_goals first | rfl | omega
def flr (a b m : Int) : Int := if 0 ≤ b then (2 * a + b + ((Float64.isqrt (5 * b * b).toNat : Nat) : Int)) / (2 * m) else (2 * a + b - ((Float64.isqrt (5 * b * b).toNat : Nat) : Int) - 1) / (2 * m)
theorem sq_lt {x y : Int} (h0 : 0 ≤ x) (h : x < y) : x * x < y * y := Int.mul_lt_mul' (Int.le_of_lt h) h h0 (by omega)
theorem sq_le {x y : Int} (h0 : 0 ≤ x) (h : x ≤ y) : x * x ≤ y * y := Int.mul_le_mul h h h0 (by omega)
theorem root5 (b : Int) : ∃ r : Int, ((Float64.isqrt (5 * b * b).toNat : Nat) : Int) = r ∧ 0 ≤ r ∧ r * r ≤ 5 * b * b ∧ 5 * b * b < (r + 1) * (r + 1) := by
  have hn : 0 ≤ 5 * b * b := by
    rw [Int.mul_assoc]
    exact Int.mul_nonneg (by decide) (by
      rcases Int.le_total 0 b with h | h
      · exact Int.mul_nonneg h h
      · exact Int.mul_nonneg_of_nonpos_of_nonpos h h)
  obtain ⟨n, hn2⟩ := Int.eq_ofNat_of_zero_le hn
  obtain ⟨h1, h2⟩ := Float64.isqrt_spec n
  rw [hn2]
  refine ⟨_, rfl, Int.natCast_nonneg _, ?_, ?_⟩
  · rw [Int.toNat_natCast]
    exact_mod_cast h1
  · rw [Int.toNat_natCast]
    exact_mod_cast h2
theorem flr_ok {a b m : Int} (hm : 1 ≤ m) : 0 ≤ psg (a - flr a b m * m) b ∧ psg (a - (flr a b m + 1) * m) b < 0 := by
  obtain ⟨r, er, r0, r1, r2⟩ := root5 b
  unfold flr
  rw [er]
  have key : ∀ k : Int, 2 * (a - k * m) + b = (2 * a + b) - k * (2 * m) := fun k => by
    have : k * (2 * m) = 2 * (k * m) := by rw [Int.mul_left_comm]
    omega
  unfold psg
  rw [key, key]
  have hM : 0 < 2 * m := by omega
  by_cases hb : 0 ≤ b
  · rw [if_pos hb]
    generalize hx : 2 * a + b = x
    have q1 := Int.ediv_mul_le (x + r) (Int.ne_of_gt hM)
    have q2 := Int.lt_ediv_add_one_mul_self (x + r) hM
    generalize (x + r) / (2 * m) * (2 * m) = u at q1 ⊢
    generalize ((x + r) / (2 * m) + 1) * (2 * m) = v at q2 ⊢
    constructor
    · by_cases c : 0 ≤ x - u
      · rw [if_pos ⟨c, hb⟩]
        split <;> decide
      · have c2 : ¬ 5 * b * b < (x - u) * (x - u) := by
          have := sq_le (x := u - x) (y := r) (by omega) (by omega)
          have e : (u - x) * (u - x) = (x - u) * (x - u) := by rw [← Int.neg_mul_neg]; congr 1 <;> omega
          omega
        rw [if_neg (fun z => c z.1)]
        by_cases c3 : b ≤ 0
        · have hb0 : b = 0 := by omega
          subst hb0
          have r00 : r = 0 := by
            rcases Int.lt_or_le 0 r with h | h
            · have := Int.mul_pos h h
              simp at r1
              omega
            · omega
          omega
        · rw [if_neg (fun z => c3 z.2), if_neg (by omega), if_neg c2]
          decide
    · have c : ¬ 0 ≤ x - v := by omega
      rw [if_neg (fun z => c z.1)]
      by_cases c3 : b ≤ 0
      · rw [if_pos ⟨by omega, c3⟩]
        decide
      · have c2 : 5 * b * b < (x - v) * (x - v) := by
          have := sq_le (x := r + 1) (y := v - x) (by omega) (by omega)
          have e : (v - x) * (v - x) = (x - v) * (x - v) := by rw [← Int.neg_mul_neg]; congr 1 <;> omega
          omega
        rw [if_neg (fun z => c3 z.2), if_neg (by omega), if_pos c2]
        decide
  · rw [if_neg hb]
    generalize hx : 2 * a + b = x
    have q1 := Int.ediv_mul_le (x - r - 1) (Int.ne_of_gt hM)
    have q2 := Int.lt_ediv_add_one_mul_self (x - r - 1) hM
    generalize (x - r - 1) / (2 * m) * (2 * m) = u at q1 ⊢
    generalize ((x - r - 1) / (2 * m) + 1) * (2 * m) = v at q2 ⊢
    constructor
    · rw [if_neg (fun z => hb z.2), if_neg (by omega), if_pos (by omega)]
      have := sq_le (x := r + 1) (y := x - u) (by omega) (by omega)
      rw [if_pos (by omega)]
      decide
    · rw [if_neg (fun z => hb z.2)]
      by_cases c : x - v ≤ 0
      · rw [if_pos ⟨c, by omega⟩]
        decide
      · have := sq_le (x := x - v) (y := r) (by omega) (by omega)
        rw [if_neg (fun z => c z.1), if_pos (by omega), if_neg (by omega)]
        decide
theorem pair_sz {a b : Int} (ha : Sz 200000 a) (hb : Sz 200000 b) : MulOk 2 a ∧ MulOk (2 * a + b) (2 * a + b) ∧ MulOk 5 b ∧ MulOk (5 * b) b := by
  have h2 : Sz 2 (2 : Int) := by decide
  have h5 : Sz 3 (5 : Int) := by decide
  have hx : Sz 200003 (2 * a + b) := ((h2.mul ha).mono (by decide : 2 + 200000 ≤ 200002)).add (hb.mono (by decide))
  exact ⟨h2.ok ha (by decide), hx.ok hx (by decide), h5.ok hb (by decide), (h5.mul hb).ok hb (by decide)⟩
theorem flr_sz {a b m : Int} (h : Num 6000 a b m) : MulOk 2 a ∧ MulOk 2 m ∧ MulOk 5 b ∧ MulOk (5 * b) b ∧ 0 ≤ 5 * b * b ∧ (5 * b * b).toNat.log2 < 13000 ∧ 0 < m ∧ (2 * m).natAbs.log2 < 9000 := by
  obtain ⟨h1, h2, h3, h4⟩ := h
  have e2 : Sz 2 (2 : Int) := by decide
  have e5 : Sz 3 (5 : Int) := by decide
  have hs := (e5.mul h2).mul h2
  obtain ⟨r, _, r0, r1, _⟩ := root5 b
  have r2 : 0 ≤ r * r := Int.mul_nonneg r0 r0
  have hp : 0 ≤ 5 * b * b := Int.le_trans r2 r1
  have hl := hs.log
  have ht : (5 * b * b).toNat = (5 * b * b).natAbs := by omega
  rw [ht]
  have hm := (e2.mul h3).log
  exact ⟨e2.ok h1 (by decide), e2.ok h3 (by decide), e5.ok h2 (by decide), (e5.mul h2).ok h2 (by decide), hp, by omega, by omega, by omega⟩
def wholeB (a b m : Int) : Bool := if a % m = 0 then decide (b % m = 0) else false
mutual
theorem pl_plain : ∀ (n : Nat) (d : D), pl n d = true → (toPy d).plain = true
  | _, .non, _ => rfl
  | _, .bl _, _ => rfl
  | _, .int _, _ => rfl
  | _, .str _, _ => rfl
  | 0, .tup _, p => by simp [pl] at p
  | 0, .lst _, p => by simp [pl] at p
  | n + 1, .tup xs, p => by
    simp only [pl] at p
    simp only [toPy, PyData.plain]
    exact pls_plain n xs p
  | n + 1, .lst xs, p => by
    simp only [pl] at p
    simp only [toPy, PyData.plain]
    exact pls_plain n xs p
  | _, .dic _, p => by simp [pl] at p
  | _, .obj _ _, p => by simp [pl] at p
  | _, .opq _, p => by simp [pl] at p
theorem pls_plain : ∀ (n : Nat) (d : List D), pls n d = true → PyData.plainAll (toPys d) = true
  | _, [], _ => rfl
  | n, x :: xs, p => by
    simp only [pls, Bool.and_eq_true] at p
    simp only [toPys, PyData.plainAll, Bool.and_eq_true]
    exact ⟨pl_plain n x p.1, pls_plain n xs p.2⟩
end
theorem red_prop {a b d : Int} (h : d ≠ 0) : ∃ p q r, red a b d = tri p q r ∧ 1 ≤ r ∧ p * d = a * r ∧ q * d = b * r := by
  obtain ⟨d1, d2, d3⟩ := cdv_dvd a b d
  have hc := cdv_ne (a := a) (b := b) h
  refine ⟨_, _, _, rfl, fdiv_pos' h, ?_, ?_⟩
  · obtain ⟨x, e1⟩ := d1
    obtain ⟨z, e3⟩ := d3
    have f1 : a.fdiv (cdv a b d) = x := by conv => lhs; lhs; rw [e1]
                                           exact Int.mul_fdiv_cancel_left _ hc
    have f3 : d.fdiv (cdv a b d) = z := by conv => lhs; lhs; rw [e3]
                                           exact Int.mul_fdiv_cancel_left _ hc
    rw [f1, f3]
    generalize cdv a b d = c at *
    rw [e1, e3, Int.mul_assoc, Int.mul_left_comm]
  · obtain ⟨x, e1⟩ := d2
    obtain ⟨z, e3⟩ := d3
    have f1 : b.fdiv (cdv a b d) = x := by conv => lhs; lhs; rw [e1]
                                           exact Int.mul_fdiv_cancel_left _ hc
    have f3 : d.fdiv (cdv a b d) = z := by conv => lhs; lhs; rw [e3]
                                           exact Int.mul_fdiv_cancel_left _ hc
    rw [f1, f3]
    generalize cdv a b d = c at *
    rw [e1, e3, Int.mul_assoc, Int.mul_left_comm]
def isNum : D → Bool
  | .tup [a, b, c] => isI a && isI b && isI c && decide (1 ≤ nOf c)
  | _ => false
theorem num_len {xs : List D} (h : ¬ xs.length = 3) : isNum (.tup xs) = false := by
  match xs, h with
  | [], _ => rfl
  | [_], _ => rfl
  | [_, _], _ => rfl
  | [_, _, _], h => exact absurd rfl h
  | _ :: _ :: _ :: _ :: _, _ => rfl
theorem num_tri {a b c : Int} (h : 1 ≤ c) : isNum (tri a b c) = true := by
  show (true && true && true && decide (1 ≤ c)) = true
  simp [h]
/-- typed, and its parts are -/
def Ty1 (known : Str → Bool) (x : D) : Prop := tyX known x = true ∧ ∀ xs, x = .tup xs → ∀ y ∈ xs, tyX known y = true
end ND

/-! ND36: evaluation, more of it (first written for k11, k10) -/
namespace ND
open PySem PySem.Spec L2
theorem c60 : (2 : Nat) ^ 240 ≤ 10 ^ 4300 := by decide +kernel
section
variable {σ xs : List SV} {f g : GE} {x y : D} {s t : GS} {E : Ed}
end
section
variable {σ : List SV} {f g : GE} {x : D} {i j : Int} {known : Str → Bool}
theorem Ev.abs (h : Ev σ f (.int i)) : Ev σ (gBlt absD (ND.gCons f ND.gNil)) (.int (if i < 0 then -i else i)) := ⟨fun Q q => h.run _ (by simpa [absD] using q)⟩
end
section
variable {σ : List SV} {f g h : GE} {fs fi : GA} {s s' t : GS} {E : Ed} {P P' P2 : D → Prop}
end
end ND

/-! ND37: == of any value and a value without dicts -/
namespace ND
open PySem PySem.SeqAt
section
open AutoSeq1 (wpAny_loadPart')
open MeetsSeq
def IsDct (h : Heap) (a : Addr) (es : Array DictEntry) : Prop := ∃ o, h.get? a = some o ∧ o.cls = .type "dict" ∧ ∃ n, o.data = .dict es n
theorem dict_eq_none (l : Addr) (es : Array DictEntry) (n : Nat) (dd : Option Addr) (sl : Array (Option Value))  :
    Meets (Builtin.«dict.__eq__» ⟨[.ref l, .none], []⟩) (fun _ R s => s.heap.get? l = some { cls := .type "dict", dict := dd, data := .dict es n, slots := sl } ∧ R (.ok (.ret .notImplemented)) s) :=
  .of_wp fun prog w A R s h => by obtain ⟨hp, g, d, tk, os⟩ := s; obtain ⟨hl, h⟩ := h; have f1 := F.sub_NoneType_dict; wp_walk using wpAny_loadPart' hl; exact ⟨_, rfl, h⟩
theorem dict_eq_bool (l : Addr) (es : Array DictEntry) (n : Nat) (dd : Option Addr) (sl : Array (Option Value)) (b : Bool) :
    Meets (Builtin.«dict.__eq__» ⟨[.ref l, .bool b], []⟩) (fun _ R s => s.heap.get? l = some { cls := .type "dict", dict := dd, data := .dict es n, slots := sl } ∧ R (.ok (.ret .notImplemented)) s) :=
  .of_wp fun prog w A R s h => by obtain ⟨hp, g, d, tk, os⟩ := s; obtain ⟨hl, h⟩ := h; have f1 := F.sub_bool_dict; wp_walk using wpAny_loadPart' hl; exact ⟨_, rfl, h⟩
theorem dict_eq_int (l : Addr) (es : Array DictEntry) (n : Nat) (dd : Option Addr) (sl : Array (Option Value)) (b : Int) (u : Tok) :
    Meets (Builtin.«dict.__eq__» ⟨[.ref l, .int b u], []⟩) (fun _ R s => s.heap.get? l = some { cls := .type "dict", dict := dd, data := .dict es n, slots := sl } ∧ R (.ok (.ret .notImplemented)) s) :=
  .of_wp fun prog w A R s h => by obtain ⟨hp, g, d, tk, os⟩ := s; obtain ⟨hl, h⟩ := h; have f1 := F.sub_int_dict; wp_walk using wpAny_loadPart' hl; exact ⟨_, rfl, h⟩
theorem dict_eq_str (l : Addr) (es : Array DictEntry) (n : Nat) (dd : Option Addr) (sl : Array (Option Value)) (b : Str) (u : Tok) :
    Meets (Builtin.«dict.__eq__» ⟨[.ref l, .str b u], []⟩) (fun _ R s => s.heap.get? l = some { cls := .type "dict", dict := dd, data := .dict es n, slots := sl } ∧ R (.ok (.ret .notImplemented)) s) :=
  .of_wp fun prog w A R s h => by obtain ⟨hp, g, d, tk, os⟩ := s; obtain ⟨hl, h⟩ := h; have f1 := F.sub_str_dict; wp_walk using wpAny_loadPart' hl; exact ⟨_, rfl, h⟩
theorem int_eq_dict_bool (b : Bool) (l : Addr) (es : Array DictEntry) (n : Nat) (dd : Option Addr) (sl : Array (Option Value)) :
    Meets (Builtin.«int.__eq__» ⟨[.bool b, .ref l], []⟩) (fun _ R s => s.heap.get? l = some { cls := .type "dict", dict := dd, data := .dict es n, slots := sl } ∧ R (.ok (.ret .notImplemented)) s) :=
  .of_wp fun prog w A R s h => by obtain ⟨hp, g, d, tk, os⟩ := s; obtain ⟨hl, h⟩ := h; wp_walk using wpAny_loadPart' hl, wpAny_load hl; exact ⟨_, rfl, h⟩
theorem int_eq_dict_int (b : Int) (u : Tok) (l : Addr) (es : Array DictEntry) (n : Nat) (dd : Option Addr) (sl : Array (Option Value)) :
    Meets (Builtin.«int.__eq__» ⟨[.int b u, .ref l], []⟩) (fun _ R s => s.heap.get? l = some { cls := .type "dict", dict := dd, data := .dict es n, slots := sl } ∧ R (.ok (.ret .notImplemented)) s) :=
  .of_wp fun prog w A R s h => by obtain ⟨hp, g, d, tk, os⟩ := s; obtain ⟨hl, h⟩ := h; wp_walk using wpAny_loadPart' hl, wpAny_load hl; exact ⟨_, rfl, h⟩
theorem str_eq_dict (b : Str) (u : Tok) (l : Addr) (es : Array DictEntry) (n : Nat) (dd : Option Addr) (sl : Array (Option Value)) :
    Meets (Builtin.«str.__eq__» ⟨[.str b u, .ref l], []⟩) (fun _ R s => s.heap.get? l = some { cls := .type "dict", dict := dd, data := .dict es n, slots := sl } ∧ R (.ok (.ret .notImplemented)) s) :=
  .of_wp fun prog w A R s h => by obtain ⟨hp, g, d, tk, os⟩ := s; obtain ⟨hl, h⟩ := h; wp_walk using wpAny_loadPart' hl, wpAny_load hl; exact ⟨_, rfl, h⟩
theorem list_eq_dict (l b : Addr) (items : Array Value) (es : Array DictEntry) (n n2 : Nat) (dd dd2 : Option Addr) (sl sl2 : Array (Option Value)) :
    Meets (Builtin.«list.__eq__» ⟨[.ref l, .ref b], []⟩) (fun _ R s => s.heap.get? l = some { cls := .type "list", dict := dd2, data := .seq items n2, slots := sl2 } ∧ s.heap.get? b = some { cls := .type "dict", dict := dd, data := .dict es n, slots := sl } ∧ R (.ok (.ret .notImplemented)) s) :=
  .of_wp fun prog w A R s h => by obtain ⟨hp, g, d, tk, os⟩ := s; obtain ⟨hl, hb, h⟩ := h; have f1 := F.sub_dict_list; wp_walk using wpAny_loadPart' hl, wpAny_loadPart' hb; exact ⟨_, rfl, h⟩
theorem dict_eq_list (l b : Addr) (items : Array Value) (es : Array DictEntry) (n n2 : Nat) (dd dd2 : Option Addr) (sl sl2 : Array (Option Value)) :
    Meets (Builtin.«dict.__eq__» ⟨[.ref l, .ref b], []⟩) (fun _ R s => s.heap.get? l = some { cls := .type "dict", dict := dd, data := .dict es n, slots := sl } ∧ s.heap.get? b = some { cls := .type "list", dict := dd2, data := .seq items n2, slots := sl2 } ∧ R (.ok (.ret .notImplemented)) s) :=
  .of_wp fun prog w A R s h => by obtain ⟨hp, g, d, tk, os⟩ := s; obtain ⟨hl, hb, h⟩ := h; have f1 := F.sub_list_dict; wp_walk using wpAny_loadPart' hl, wpAny_loadPart' hb; exact ⟨_, rfl, h⟩
theorem tuple_eq_dict (l b : Addr) (items : Array Value) (es : Array DictEntry) (n n2 : Nat) (dd dd2 : Option Addr) (sl sl2 : Array (Option Value)) :
    Meets (Builtin.«tuple.__eq__» ⟨[.ref l, .ref b], []⟩) (fun _ R s => s.heap.get? l = some { cls := .type "tuple", dict := dd2, data := .seq items n2, slots := sl2 } ∧ s.heap.get? b = some { cls := .type "dict", dict := dd, data := .dict es n, slots := sl } ∧ R (.ok (.ret .notImplemented)) s) :=
  .of_wp fun prog w A R s h => by obtain ⟨hp, g, d, tk, os⟩ := s; obtain ⟨hl, hb, h⟩ := h; have f1 := F.sub_dict_tuple; wp_walk using wpAny_loadPart' hl, wpAny_loadPart' hb; exact ⟨_, rfl, h⟩
theorem dict_eq_tuple (l b : Addr) (items : Array Value) (es : Array DictEntry) (n n2 : Nat) (dd dd2 : Option Addr) (sl sl2 : Array (Option Value)) :
    Meets (Builtin.«dict.__eq__» ⟨[.ref l, .ref b], []⟩) (fun _ R s => s.heap.get? l = some { cls := .type "dict", dict := dd, data := .dict es n, slots := sl } ∧ s.heap.get? b = some { cls := .type "tuple", dict := dd2, data := .seq items n2, slots := sl2 } ∧ R (.ok (.ret .notImplemented)) s) :=
  .of_wp fun prog w A R s h => by obtain ⟨hp, g, d, tk, os⟩ := s; obtain ⟨hl, hb, h⟩ := h; have f1 := F.sub_tuple_dict; wp_walk using wpAny_loadPart' hl, wpAny_loadPart' hb; exact ⟨_, rfl, h⟩
variable {A : Around} {s : Shared}
theorem rc_dict_none {l : Addr} {es : Array DictEntry}  (hl : IsDct s.heap l es) (hu : A.units < cLine) : RcAt A s (.ref l) (.none) false := fun prog w E Q h => by
  obtain ⟨⟨cls, dd, data, sl⟩, ho, hc, n, hd⟩ := id hl
  simp only at hc hd
  subst hc hd
  exact rc_eq_decline_or (k := false) ⟨_, ho, rfl⟩ rfl (by decide) F.sub_NoneType_dict F.slot_dict_eq F.slot_NoneType_eq_refl
    (fun _ hq => call_meets F.slot_dict_eq ⟨_, ho, rfl⟩ F.entry_dict_eq (F.args_dict_eq_2 _ _) (dict_eq_none l es n dd sl ) ⟨ho, hq⟩)
    (fun _ hq => call_gives F.slot_NoneType_eq_refl rfl F.entry_NoneType_eq (F.args_NoneType_eq_2 _ _) (NoneType___eq___none_ref_0 l) hq)
    (fun _ hq => wpAny_of_eq (rfl : isSame (.ref l) (.none) = pure false) hq) (.inr hu) h
theorem eq_dict_none {l : Addr} {es : Array DictEntry}  (hl : IsDct s.heap l es) (hu : A.units < cLine) : EqAt A s (.ref l) (.none) false := fun prog w E Q h => by
  unfold eqBool
  refine wpAny_holding ?_
  refine wpAny_ite_split (fun hab => absurd (eq_of_beq hab) nofun) (fun _ => ?_)
  exact wpAny_bind (rc_dict_none  hl hu prog w E _ (wpAny_truthy_bool h))
theorem rc_none_dict {l : Addr} {es : Array DictEntry}  (hl : IsDct s.heap l es) (hu : A.units < cLine) : RcAt A s (.none) (.ref l) false := fun prog w E Q h => by
  obtain ⟨⟨cls, dd, data, sl⟩, ho, hc, n, hd⟩ := id hl
  simp only at hc hd
  subst hc hd
  exact rc_eq_decline_or (k := false) rfl ⟨_, ho, rfl⟩ (by decide) F.sub_dict_NoneType F.slot_NoneType_eq F.slot_dict_eq_refl
    (fun _ hq => call_gives F.slot_NoneType_eq rfl F.entry_NoneType_eq (F.args_NoneType_eq_2 _ _) (NoneType___eq___none_ref_0 l) hq)
    (fun _ hq => call_meets F.slot_dict_eq_refl ⟨_, ho, rfl⟩ F.entry_dict_eq (F.args_dict_eq_2 _ _) (dict_eq_none l es n dd sl ) ⟨ho, hq⟩)
    (fun _ hq => wpAny_of_eq (rfl : isSame (.none) (.ref l) = pure false) hq) (.inr hu) h
theorem eq_none_dict {l : Addr} {es : Array DictEntry}  (hl : IsDct s.heap l es) (hu : A.units < cLine) : EqAt A s (.none) (.ref l) false := fun prog w E Q h => by
  unfold eqBool
  refine wpAny_holding ?_
  refine wpAny_ite_split (fun hab => absurd (eq_of_beq hab) nofun) (fun _ => ?_)
  exact wpAny_bind (rc_none_dict  hl hu prog w E _ (wpAny_truthy_bool h))
theorem rc_dict_bool {l : Addr} {es : Array DictEntry} (b : Bool) (hl : IsDct s.heap l es) (hu : A.units < cLine) : RcAt A s (.ref l) (.bool b) false := fun prog w E Q h => by
  obtain ⟨⟨cls, dd, data, sl⟩, ho, hc, n, hd⟩ := id hl
  simp only at hc hd
  subst hc hd
  exact rc_eq_decline_or (k := false) ⟨_, ho, rfl⟩ rfl (by decide) F.sub_bool_dict F.slot_dict_eq F.slot_bool_eq_refl
    (fun _ hq => call_meets F.slot_dict_eq ⟨_, ho, rfl⟩ F.entry_dict_eq (F.args_dict_eq_2 _ _) (dict_eq_bool l es n dd sl b) ⟨ho, hq⟩)
    (fun _ hq => call_meets F.slot_bool_eq_refl rfl F.entry_int_eq (F.args_int_eq_2 _ _) (int_eq_dict_bool b l es n dd sl) ⟨ho, hq⟩)
    (fun _ hq => wpAny_of_eq (rfl : isSame (.ref l) (.bool b) = pure false) hq) (.inr hu) h
theorem eq_dict_bool {l : Addr} {es : Array DictEntry} (b : Bool) (hl : IsDct s.heap l es) (hu : A.units < cLine) : EqAt A s (.ref l) (.bool b) false := fun prog w E Q h => by
  unfold eqBool
  refine wpAny_holding ?_
  refine wpAny_ite_split (fun hab => absurd (eq_of_beq hab) nofun) (fun _ => ?_)
  exact wpAny_bind (rc_dict_bool b hl hu prog w E _ (wpAny_truthy_bool h))
theorem rc_bool_dict {l : Addr} {es : Array DictEntry} (b : Bool) (hl : IsDct s.heap l es) (hu : A.units < cLine) : RcAt A s (.bool b) (.ref l) false := fun prog w E Q h => by
  obtain ⟨⟨cls, dd, data, sl⟩, ho, hc, n, hd⟩ := id hl
  simp only at hc hd
  subst hc hd
  exact rc_eq_decline_or (k := false) rfl ⟨_, ho, rfl⟩ (by decide) F.sub_dict_bool F.slot_bool_eq F.slot_dict_eq_refl
    (fun _ hq => call_meets F.slot_bool_eq rfl F.entry_int_eq (F.args_int_eq_2 _ _) (int_eq_dict_bool b l es n dd sl) ⟨ho, hq⟩)
    (fun _ hq => call_meets F.slot_dict_eq_refl ⟨_, ho, rfl⟩ F.entry_dict_eq (F.args_dict_eq_2 _ _) (dict_eq_bool l es n dd sl b) ⟨ho, hq⟩)
    (fun _ hq => wpAny_of_eq (rfl : isSame (.bool b) (.ref l) = pure false) hq) (.inr hu) h
theorem eq_bool_dict {l : Addr} {es : Array DictEntry} (b : Bool) (hl : IsDct s.heap l es) (hu : A.units < cLine) : EqAt A s (.bool b) (.ref l) false := fun prog w E Q h => by
  unfold eqBool
  refine wpAny_holding ?_
  refine wpAny_ite_split (fun hab => absurd (eq_of_beq hab) nofun) (fun _ => ?_)
  exact wpAny_bind (rc_bool_dict b hl hu prog w E _ (wpAny_truthy_bool h))
theorem rc_dict_int {l : Addr} {es : Array DictEntry} (b : Int) (u : Tok) (hl : IsDct s.heap l es) (hu : A.units < cLine) : RcAt A s (.ref l) (.int b u) false := fun prog w E Q h => by
  obtain ⟨⟨cls, dd, data, sl⟩, ho, hc, n, hd⟩ := id hl
  simp only at hc hd
  subst hc hd
  exact rc_eq_decline_or (k := false) ⟨_, ho, rfl⟩ rfl (by decide) F.sub_int_dict F.slot_dict_eq F.slot_int_eq_refl
    (fun _ hq => call_meets F.slot_dict_eq ⟨_, ho, rfl⟩ F.entry_dict_eq (F.args_dict_eq_2 _ _) (dict_eq_int l es n dd sl b u) ⟨ho, hq⟩)
    (fun _ hq => call_meets F.slot_int_eq_refl rfl F.entry_int_eq (F.args_int_eq_2 _ _) (int_eq_dict_int b u l es n dd sl) ⟨ho, hq⟩)
    (fun _ hq => wpAny_of_eq (rfl : isSame (.ref l) (.int b u) = pure false) hq) (.inr hu) h
theorem eq_dict_int {l : Addr} {es : Array DictEntry} (b : Int) (u : Tok) (hl : IsDct s.heap l es) (hu : A.units < cLine) : EqAt A s (.ref l) (.int b u) false := fun prog w E Q h => by
  unfold eqBool
  refine wpAny_holding ?_
  refine wpAny_ite_split (fun hab => absurd (eq_of_beq hab) nofun) (fun _ => ?_)
  exact wpAny_bind (rc_dict_int b u hl hu prog w E _ (wpAny_truthy_bool h))
theorem rc_int_dict {l : Addr} {es : Array DictEntry} (b : Int) (u : Tok) (hl : IsDct s.heap l es) (hu : A.units < cLine) : RcAt A s (.int b u) (.ref l) false := fun prog w E Q h => by
  obtain ⟨⟨cls, dd, data, sl⟩, ho, hc, n, hd⟩ := id hl
  simp only at hc hd
  subst hc hd
  exact rc_eq_decline_or (k := false) rfl ⟨_, ho, rfl⟩ (by decide) F.sub_dict_int F.slot_int_eq F.slot_dict_eq_refl
    (fun _ hq => call_meets F.slot_int_eq rfl F.entry_int_eq (F.args_int_eq_2 _ _) (int_eq_dict_int b u l es n dd sl) ⟨ho, hq⟩)
    (fun _ hq => call_meets F.slot_dict_eq_refl ⟨_, ho, rfl⟩ F.entry_dict_eq (F.args_dict_eq_2 _ _) (dict_eq_int l es n dd sl b u) ⟨ho, hq⟩)
    (fun _ hq => wpAny_of_eq (rfl : isSame (.int b u) (.ref l) = pure false) hq) (.inr hu) h
theorem eq_int_dict {l : Addr} {es : Array DictEntry} (b : Int) (u : Tok) (hl : IsDct s.heap l es) (hu : A.units < cLine) : EqAt A s (.int b u) (.ref l) false := fun prog w E Q h => by
  unfold eqBool
  refine wpAny_holding ?_
  refine wpAny_ite_split (fun hab => absurd (eq_of_beq hab) nofun) (fun _ => ?_)
  exact wpAny_bind (rc_int_dict b u hl hu prog w E _ (wpAny_truthy_bool h))
theorem rc_dict_str {l : Addr} {es : Array DictEntry} (b : Str) (u : Tok) (hl : IsDct s.heap l es) (hu : A.units < cLine) : RcAt A s (.ref l) (.str b u) false := fun prog w E Q h => by
  obtain ⟨⟨cls, dd, data, sl⟩, ho, hc, n, hd⟩ := id hl
  simp only at hc hd
  subst hc hd
  exact rc_eq_decline_or (k := false) ⟨_, ho, rfl⟩ rfl (by decide) F.sub_str_dict F.slot_dict_eq F.slot_str_eq_refl
    (fun _ hq => call_meets F.slot_dict_eq ⟨_, ho, rfl⟩ F.entry_dict_eq (F.args_dict_eq_2 _ _) (dict_eq_str l es n dd sl b u) ⟨ho, hq⟩)
    (fun _ hq => call_meets F.slot_str_eq_refl rfl F.entry_str_eq (F.args_str_eq_2 _ _) (str_eq_dict b u l es n dd sl) ⟨ho, hq⟩)
    (fun _ hq => wpAny_of_eq (rfl : isSame (.ref l) (.str b u) = pure false) hq) (.inr hu) h
theorem eq_dict_str {l : Addr} {es : Array DictEntry} (b : Str) (u : Tok) (hl : IsDct s.heap l es) (hu : A.units < cLine) : EqAt A s (.ref l) (.str b u) false := fun prog w E Q h => by
  unfold eqBool
  refine wpAny_holding ?_
  refine wpAny_ite_split (fun hab => absurd (eq_of_beq hab) nofun) (fun _ => ?_)
  exact wpAny_bind (rc_dict_str b u hl hu prog w E _ (wpAny_truthy_bool h))
theorem rc_str_dict {l : Addr} {es : Array DictEntry} (b : Str) (u : Tok) (hl : IsDct s.heap l es) (hu : A.units < cLine) : RcAt A s (.str b u) (.ref l) false := fun prog w E Q h => by
  obtain ⟨⟨cls, dd, data, sl⟩, ho, hc, n, hd⟩ := id hl
  simp only at hc hd
  subst hc hd
  exact rc_eq_decline_or (k := false) rfl ⟨_, ho, rfl⟩ (by decide) F.sub_dict_str F.slot_str_eq F.slot_dict_eq_refl
    (fun _ hq => call_meets F.slot_str_eq rfl F.entry_str_eq (F.args_str_eq_2 _ _) (str_eq_dict b u l es n dd sl) ⟨ho, hq⟩)
    (fun _ hq => call_meets F.slot_dict_eq_refl ⟨_, ho, rfl⟩ F.entry_dict_eq (F.args_dict_eq_2 _ _) (dict_eq_str l es n dd sl b u) ⟨ho, hq⟩)
    (fun _ hq => wpAny_of_eq (rfl : isSame (.str b u) (.ref l) = pure false) hq) (.inr hu) h
theorem eq_str_dict {l : Addr} {es : Array DictEntry} (b : Str) (u : Tok) (hl : IsDct s.heap l es) (hu : A.units < cLine) : EqAt A s (.str b u) (.ref l) false := fun prog w E Q h => by
  unfold eqBool
  refine wpAny_holding ?_
  refine wpAny_ite_split (fun hab => absurd (eq_of_beq hab) nofun) (fun _ => ?_)
  exact wpAny_bind (rc_str_dict b u hl hu prog w E _ (wpAny_truthy_bool h))
theorem ne_list_dict {h : Heap} {l b : Addr} {items : Array Value} {es : Array DictEntry} (hl : h.IsList l items) (hb : IsDct h b es) : l ≠ b := fun e => by
  subst e
  obtain ⟨o, ho, hc, _⟩ := hl
  obtain ⟨o2, ho2, hc2, _⟩ := hb
  cases Option.some.inj (ho.symm.trans ho2)
  rw [hc] at hc2
  exact absurd hc2 (by simp)
theorem rc_list_dict {l b : Addr} {items : Array Value} {es : Array DictEntry} (hl : s.heap.IsList l items) (hb : IsDct s.heap b es) (hu : A.units < cLine) : RcAt A s (.ref l) (.ref b) false := fun prog w E Q h => by
  have hne := ne_list_dict hl hb
  obtain ⟨⟨cls, dd2, data, sl2⟩, ho, hc, n2, hd⟩ := id hl
  obtain ⟨⟨cls2, dd, data2, sl⟩, ho2, hc2, n, hd2⟩ := id hb
  simp only at hc hd hc2 hd2
  subst hc hd hc2 hd2
  exact (rc_eq_decline_or (k := false) ⟨_, ho, rfl⟩ ⟨_, ho2, rfl⟩ (by decide) F.sub_dict_list F.slot_list_eq F.slot_dict_eq_refl
    (fun _ hq => call_meets F.slot_list_eq ⟨_, ho, rfl⟩ F.entry_list_eq (F.args_list_eq_2 _ _) (list_eq_dict l b items es n n2 dd dd2 sl sl2) ⟨ho, ho2, hq⟩)
    (fun _ hq => call_meets F.slot_dict_eq_refl ⟨_, ho2, rfl⟩ F.entry_dict_eq (F.args_dict_eq_2 _ _) (dict_eq_list b l items es n n2 dd dd2 sl sl2) ⟨ho2, ho, hq⟩)
    (fun _ hq => wpAny_isSame_ref_other hne ho ho2 (by simp) hq) (.inr hu) h)
theorem rc_dict_list {l b : Addr} {items : Array Value} {es : Array DictEntry} (hl : IsDct s.heap l es) (hb : s.heap.IsList b items) (hu : A.units < cLine) : RcAt A s (.ref l) (.ref b) false := fun prog w E Q h => by
  have hne : l ≠ b := (ne_list_dict hb hl).symm
  obtain ⟨⟨cls, dd, data, sl⟩, ho, hc, n, hd⟩ := id hl
  obtain ⟨⟨cls2, dd2, data2, sl2⟩, ho2, hc2, n2, hd2⟩ := id hb
  simp only at hc hd hc2 hd2
  subst hc hd hc2 hd2
  exact (rc_eq_decline_or (k := false) ⟨_, ho, rfl⟩ ⟨_, ho2, rfl⟩ (by decide) F.sub_list_dict F.slot_dict_eq F.slot_list_eq_refl
    (fun _ hq => call_meets F.slot_dict_eq ⟨_, ho, rfl⟩ F.entry_dict_eq (F.args_dict_eq_2 _ _) (dict_eq_list l b items es n n2 dd dd2 sl sl2) ⟨ho, ho2, hq⟩)
    (fun _ hq => call_meets F.slot_list_eq_refl ⟨_, ho2, rfl⟩ F.entry_list_eq (F.args_list_eq_2 _ _) (list_eq_dict b l items es n n2 dd dd2 sl sl2) ⟨ho2, ho, hq⟩)
    (fun _ hq => wpAny_isSame_ref_other hne ho ho2 (by simp) hq) (.inr hu) h)
theorem ne_tuple_dict {h : Heap} {l b : Addr} {items : Array Value} {es : Array DictEntry} (hl : h.IsTuple l items) (hb : IsDct h b es) : l ≠ b := fun e => by
  subst e
  obtain ⟨o, ho, hc, _⟩ := hl
  obtain ⟨o2, ho2, hc2, _⟩ := hb
  cases Option.some.inj (ho.symm.trans ho2)
  rw [hc] at hc2
  exact absurd hc2 (by simp)
theorem rc_tuple_dict {l b : Addr} {items : Array Value} {es : Array DictEntry} (hl : s.heap.IsTuple l items) (hb : IsDct s.heap b es) (hu : A.units < cLine) : RcAt A s (.ref l) (.ref b) false := fun prog w E Q h => by
  have hne := ne_tuple_dict hl hb
  obtain ⟨⟨cls, dd2, data, sl2⟩, ho, hc, n2, hd⟩ := id hl
  obtain ⟨⟨cls2, dd, data2, sl⟩, ho2, hc2, n, hd2⟩ := id hb
  simp only at hc hd hc2 hd2
  subst hc hd hc2 hd2
  exact (rc_eq_decline_or (k := false) ⟨_, ho, rfl⟩ ⟨_, ho2, rfl⟩ (by decide) F.sub_dict_tuple F.slot_tuple_eq F.slot_dict_eq_refl
    (fun _ hq => call_meets F.slot_tuple_eq ⟨_, ho, rfl⟩ F.entry_tuple_eq (F.args_tuple_eq_2 _ _) (tuple_eq_dict l b items es n n2 dd dd2 sl sl2) ⟨ho, ho2, hq⟩)
    (fun _ hq => call_meets F.slot_dict_eq_refl ⟨_, ho2, rfl⟩ F.entry_dict_eq (F.args_dict_eq_2 _ _) (dict_eq_tuple b l items es n n2 dd dd2 sl sl2) ⟨ho2, ho, hq⟩)
    (fun _ hq => wpAny_isSame_ref_other' hne ho ho2 (by simp) hq) (.inr hu) h)
theorem rc_dict_tuple {l b : Addr} {items : Array Value} {es : Array DictEntry} (hl : IsDct s.heap l es) (hb : s.heap.IsTuple b items) (hu : A.units < cLine) : RcAt A s (.ref l) (.ref b) false := fun prog w E Q h => by
  have hne : l ≠ b := (ne_tuple_dict hb hl).symm
  obtain ⟨⟨cls, dd, data, sl⟩, ho, hc, n, hd⟩ := id hl
  obtain ⟨⟨cls2, dd2, data2, sl2⟩, ho2, hc2, n2, hd2⟩ := id hb
  simp only at hc hd hc2 hd2
  subst hc hd hc2 hd2
  exact (rc_eq_decline_or (k := false) ⟨_, ho, rfl⟩ ⟨_, ho2, rfl⟩ (by decide) F.sub_tuple_dict F.slot_dict_eq F.slot_tuple_eq_refl
    (fun _ hq => call_meets F.slot_dict_eq ⟨_, ho, rfl⟩ F.entry_dict_eq (F.args_dict_eq_2 _ _) (dict_eq_tuple l b items es n n2 dd dd2 sl sl2) ⟨ho, ho2, hq⟩)
    (fun _ hq => call_meets F.slot_tuple_eq_refl ⟨_, ho2, rfl⟩ F.entry_tuple_eq (F.args_tuple_eq_2 _ _) (tuple_eq_dict b l items es n n2 dd dd2 sl sl2) ⟨ho2, ho, hq⟩)
    (fun _ hq => wpAny_isSame_ref_other hne ho ho2 (by simp) hq) (.inr hu) h)
theorem reads_same {h : Heap} {d d' : PyData} {v : Value} {as as' : List Addr} (k : d.canLay0 = true ∨ d'.canLay0 = true) (r : Reads h v d as) (r' : Reads h v d' as') : d = d' ∧ d.canLay0 = true := by
  rcases k with k | k
  · exact ⟨Reads.unique d d' v as as' k r r', k⟩
  · have := Reads.unique d' d v as' as k r' r
    subst this
    exact ⟨rfl, k⟩
theorem or_list {xs ys : List PyData} (h : (PyData.list xs).canLay0 = true ∨ (PyData.list ys).canLay0 = true) : PyData.canLayAll0 xs = true ∨ PyData.canLayAll0 ys = true := by simpa only [PyData.canLay0] using h
theorem or_tuple {xs ys : List PyData} (h : (PyData.tuple xs).canLay0 = true ∨ (PyData.tuple ys).canLay0 = true) : PyData.canLayAll0 xs = true ∨ PyData.canLayAll0 ys = true := by simpa only [PyData.canLay0] using h
theorem or_cons {x y : PyData} {xs ys : List PyData} (h : PyData.canLayAll0 (x :: xs) = true ∨ PyData.canLayAll0 (y :: ys) = true) : (x.canLay0 = true ∨ y.canLay0 = true) ∧ (PyData.canLayAll0 xs = true ∨ PyData.canLayAll0 ys = true) := by
  simp only [PyData.canLayAll0, Bool.and_eq_true] at h
  rcases h with h | h
  · exact ⟨.inl h.1, .inl h.2⟩
  · exact ⟨.inr h.1, .inr h.2⟩
mutual
theorem eqAny : ∀ (da db : PyData) (A : Around) (s : Shared) (a b : Value) (as bs : List Addr), Reads s.heap a da as → Reads s.heap b db bs → (da.canLay0 = true ∨ db.canLay0 = true) →
    A.units + min da.depth db.depth < cLine → EqAt A s a b (PyData.eqv da db)
  | .none, _, A, s, _, _, _, _, ra, rb, _, hu => by
    cases ra
    cases rb with
    | none => exact EqAt.same _
    | bool y => exact EqAt.none_bool y
    | int y u => exact EqAt.none_int y u
    | str y u => exact EqAt.none_str y u
    | list k1 k2 k3 k4 => exact EqAt.none_list ⟨_, k1, k2, _, k3⟩ (room_here hu)
    | tuple k1 k2 k3 k4 => exact EqAt.none_tuple ⟨_, k1, k2, _, k3⟩ (room_here hu)
    | dict k1 k2 k3 _ _ => exact eq_none_dict ⟨_, k1, k2, _, k3⟩ (room_here hu)
  | .bool x, _, A, s, _, _, _, _, ra, rb, _, hu => by
    cases ra
    cases rb with
    | none => exact EqAt.bool_none x
    | bool y => exact EqAt.bool_bool x y
    | int y u => exact EqAt.bool_int x y u
    | str y u => exact EqAt.bool_str x y u
    | list k1 k2 k3 k4 => exact EqAt.bool_list x ⟨_, k1, k2, _, k3⟩ (room_here hu)
    | tuple k1 k2 k3 k4 => exact EqAt.bool_tuple x ⟨_, k1, k2, _, k3⟩ (room_here hu)
    | dict k1 k2 k3 _ _ => exact eq_bool_dict x ⟨_, k1, k2, _, k3⟩ (room_here hu)
  | .int x, _, A, s, _, _, _, _, ra, rb, _, hu => by
    cases ra with
    | int _ t =>
      cases rb with
      | none => exact EqAt.int_none x t
      | bool y => exact EqAt.int_bool x t y
      | int y u => exact EqAt.int_int x t y u
      | str y u => exact EqAt.int_str x t y u
      | list k1 k2 k3 k4 => exact EqAt.int_list x t ⟨_, k1, k2, _, k3⟩ (room_here hu)
      | tuple k1 k2 k3 k4 => exact EqAt.int_tuple x t ⟨_, k1, k2, _, k3⟩ (room_here hu)
      | dict k1 k2 k3 _ _ => exact eq_int_dict x t ⟨_, k1, k2, _, k3⟩ (room_here hu)
  | .str x, _, A, s, _, _, _, _, ra, rb, _, hu => by
    cases ra with
    | str _ t =>
      cases rb with
      | none => exact EqAt.str_none x t
      | bool y => exact EqAt.str_bool x t y
      | int y u => exact EqAt.str_int x t y u
      | str y u => exact EqAt.str_str x t y u
      | list k1 k2 k3 k4 => exact EqAt.str_list x t ⟨_, k1, k2, _, k3⟩ (room_here hu)
      | tuple k1 k2 k3 k4 => exact EqAt.str_tuple x t ⟨_, k1, k2, _, k3⟩ (room_here hu)
      | dict k1 k2 k3 _ _ => exact eq_str_dict x t ⟨_, k1, k2, _, k3⟩ (room_here hu)
  | .list xs, db, A, s, _, _, _, _, ra, rb, hc, hu => by
    cases ra with
    | @list l o vs n _ as₁ h1 h2 h3 h4 =>
      have hl : s.heap.IsList l vs := ⟨_, h1, h2, _, h3⟩
      cases rb with
      | none => exact EqAt.list_none hl (room_here hu)
      | bool y => exact EqAt.list_bool y hl (room_here hu)
      | int y u => exact EqAt.list_int y u hl (room_here hu)
      | str y u => exact EqAt.list_str y u hl (room_here hu)
      | tuple k1 k2 k3 k4 => exact EqAt.list_tuple hl ⟨_, k1, k2, _, k3⟩ (room_here hu)
      | dict k1 k2 k3 _ _ => exact .of_refs (ne_list_dict hl ⟨_, k1, k2, _, k3⟩) (rc_list_dict hl ⟨_, k1, k2, _, k3⟩ (room_here hu))
      | @list l' o' vs' n' ys bs₁ k1 k2 k3 k4 =>
        have hl' : s.heap.IsList l' vs' := ⟨_, k1, k2, _, k3⟩
        have n1 : vs.size = xs.length := by simpa using ReadsAll.length _ _ _ h4
        have n2 : vs'.size = ys.length := by simpa using ReadsAll.length _ _ _ k4
        show EqAt A s (.ref l) (.ref l') (PyData.eqvAll xs ys)
        by_cases hll : l = l'
        · subst hll
          obtain ⟨e, ha⟩ := reads_same hc (.list h1 h2 h3 h4) (.list k1 k2 k3 k4)
          injection e with e
          subst e
          rw [eqvAll_refl xs ha]
          exact EqAt.same _
        · by_cases hsz : vs.size = vs'.size
          · rw [← eqvAll_same_length (by omega : xs.length = ys.length), ← n1]
            refine EqAt.of_refs hll (RcAt.lists hl hl' hsz (room_here hu) fun j j1 j2 => ?_)
            have := eqAnyAll xs ys A.in1 s vs.toList vs'.toList _ _ h4 k4 (or_list hc) (room_in hu) j (by simpa using j1) (by simpa using j2)
            simpa using this
          · rw [eqvAll_other_length (by omega : xs.length ≠ ys.length)]
            exact EqAt.of_refs hll (RcAt.lists_lengths hl hl' (by simpa using hsz) (room_here hu))
  | .tuple xs, db, A, s, _, _, _, _, ra, rb, hc, hu => by
    cases ra with
    | @tuple l o vs n _ as₁ h1 h2 h3 h4 =>
      have hl : s.heap.IsTuple l vs := ⟨_, h1, h2, _, h3⟩
      cases rb with
      | none => exact EqAt.tuple_none hl (room_here hu)
      | bool y => exact EqAt.tuple_bool y hl (room_here hu)
      | int y u => exact EqAt.tuple_int y u hl (room_here hu)
      | str y u => exact EqAt.tuple_str y u hl (room_here hu)
      | list k1 k2 k3 k4 => exact EqAt.tuple_list hl ⟨_, k1, k2, _, k3⟩ (room_here hu)
      | dict k1 k2 k3 _ _ => exact .of_refs (ne_tuple_dict hl ⟨_, k1, k2, _, k3⟩) (rc_tuple_dict hl ⟨_, k1, k2, _, k3⟩ (room_here hu))
      | @tuple l' o' vs' n' ys bs₁ k1 k2 k3 k4 =>
        have hl' : s.heap.IsTuple l' vs' := ⟨_, k1, k2, _, k3⟩
        have n1 : vs.size = xs.length := by simpa using ReadsAll.length _ _ _ h4
        have n2 : vs'.size = ys.length := by simpa using ReadsAll.length _ _ _ k4
        show EqAt A s (.ref l) (.ref l') (PyData.eqvAll xs ys)
        by_cases hll : l = l'
        · subst hll
          obtain ⟨e, ha⟩ := reads_same hc (.tuple h1 h2 h3 h4) (.tuple k1 k2 k3 k4)
          injection e with e
          subst e
          rw [eqvAll_refl xs ha]
          exact EqAt.same _
        · rw [← eqvAll_eq xs ys, ← n1, ← n2]
          refine EqAt.of_refs hll (RcAt.tuples hl hl' (room_here hu) fun j j1 j2 => ?_)
          have := eqAnyAll xs ys A.in1 s vs.toList vs'.toList _ _ h4 k4 (or_tuple hc) (room_in hu) j (by simpa using j1) (by simpa using j2)
          simpa using this
  | .dict xs, db, A, s, _, _, _, _, ra, rb, hc, hu => by
    cases ra with
    | @dict l o es n _ as₁ bs₁ h1 h2 h3 h4 h5 =>
      have hl : IsDct s.heap l es := ⟨_, h1, h2, _, h3⟩
      cases rb with
      | none => exact eq_dict_none hl (room_here hu)
      | bool y => exact eq_dict_bool y hl (room_here hu)
      | int y u => exact eq_dict_int y u hl (room_here hu)
      | str y u => exact eq_dict_str y u hl (room_here hu)
      | list k1 k2 k3 k4 => exact .of_refs (ne_list_dict ⟨_, k1, k2, _, k3⟩ hl).symm (rc_dict_list hl ⟨_, k1, k2, _, k3⟩ (room_here hu))
      | tuple k1 k2 k3 k4 => exact .of_refs (ne_tuple_dict ⟨_, k1, k2, _, k3⟩ hl).symm (rc_dict_tuple hl ⟨_, k1, k2, _, k3⟩ (room_here hu))
      | dict k1 k2 k3 _ _ => simp [PyData.canLay0] at hc
theorem eqAnyAll : ∀ (xs ys : List PyData) (A : Around) (s : Shared) (vs ws : List Value) (as bs : List Addr), ReadsAll s.heap vs xs as → ReadsAll s.heap ws ys bs → (PyData.canLayAll0 xs = true ∨ PyData.canLayAll0 ys = true) →
    A.units + min (PyData.depthAll xs) (PyData.depthAll ys) < cLine → ∀ j (h1 : j < vs.length) (h2 : j < ws.length), EqAt A s vs[j] ws[j] (pairEq xs ys j)
  | [], _, _, _, _, _, _, _, ra, _, _, _, j, h1, _ => by cases ra; exact absurd h1 (Nat.not_lt_zero _)
  | _ :: _, [], _, _, _, _, _, _, _, rb, _, _, j, _, h2 => by cases rb; exact absurd h2 (Nat.not_lt_zero _)
  | x :: xs, y :: ys, A, s, _, _, _, _, ra, rb, hc, hu, j, h1, h2 => by
    obtain ⟨hc1, hc2⟩ := or_cons hc
    cases ra with
    | cons r rs =>
      cases rb with
      | cons r' rs' =>
        cases j with
        | zero => exact eqAny x y A s _ _ _ _ r r' hc1 (room_head hu)
        | succ j => exact eqAnyAll xs ys A s _ _ _ _ rs rs' hc2 (room_tail hu) j (Nat.lt_of_succ_lt_succ h1) (Nat.lt_of_succ_lt_succ h2)
end
end
section
variable {B : Bs} {X : Cx} {pins : List (Addr × Obj)} {σ : L2.St} {H F : Hp} {s : Shared}
open PySem.Spec L2
end
end ND

/-! ND38: a text tells its value, if the value is made of ints and tuples -/
namespace ND
open PySem PySem.Spec L2
open PyProof.Rows (cps_toList_append signs_ofString int_text_free')
abbrev cs (d : PyData) : List Nat := d.shown.cps.toList
mutual
/-- ints and tuples alone -/
def nest : PyData → Bool
  | .int _ => true
  | .tuple xs => nests xs
  | _ => false
def nests : List PyData → Bool
  | [] => true
  | x :: xs => nest x && nests xs
end
theorem map_inj {xs ys : List Char} (h : xs.map Char.toNat = ys.map Char.toNat) : xs = ys := by
  induction xs generalizing ys with
  | nil => cases ys with
    | nil => rfl
    | cons _ _ => simp at h
  | cons x xs ih => cases ys with
    | nil => simp at h
    | cons y ys =>
      simp only [List.map_cons, List.cons.injEq] at h
      rw [ih h.2, Char.toNat_inj.mp h.1]
theorem int_inj {i j : Int} (h : cs (.int i) = cs (.int j)) : i = j := by
  have h' : ((toString i : String) : Str).cps.toList = ((toString j : String) : Str).cps.toList := h
  rw [signs_ofString, signs_ofString] at h'
  have := map_inj h'
  exact Int.repr_inj.mp (String.toList_inj.mp this)
def isDg (c : Nat) : Bool := c == 45 || (decide (48 ≤ c) && decide (c ≤ 57))
theorem int_dg (i : Int) : ∀ c ∈ cs (.int i), isDg c = true := fun c m => by
  cases h : isDg c with
  | true => rfl
  | false =>
    simp [isDg] at h
    exact absurd m (int_text_free' c ⟨h.1, by omega⟩ i)
theorem int_ne (i : Int) : cs (.int i) ≠ [] := fun e => by
  have h : ((toString i : String) : Str).cps.toList = [] := e
  rw [signs_ofString, List.map_eq_nil_iff] at h
  have h2 : i.repr.toList = [] := h
  rw [Int.repr_eq_if] at h2
  split at h2
  · rw [Nat.toList_repr] at h2
    have := PyProof.Rows.tDigits_len_ge 10 i.toNat
    rw [h2] at this
    simp at this
  · rw [String.toList_append] at h2
    simp at h2
/-- what may stand behind a value -/
def Stop (r : List Nat) : Prop := r = [] ∨ ∃ c t, r = c :: t ∧ (c = 44 ∨ c = 41)
theorem stop_take {r : List Nat} (h : Stop r) : r.takeWhile isDg = [] := by
  rcases h with rfl | ⟨c, t, rfl, rfl | rfl⟩ <;> rfl
theorem take_dg {xs r : List Nat} (h : ∀ c ∈ xs, isDg c = true) (s : Stop r) : (xs ++ r).takeWhile isDg = xs := by
  induction xs with
  | nil => exact stop_take s
  | cons x xs ih =>
    rw [List.cons_append, List.takeWhile_cons, if_pos (h x List.mem_cons_self), ih fun c m => h c (List.mem_cons_of_mem _ m)]
theorem sh_ap (a b : Str) : (a ++ b).cps.toList = a.cps.toList ++ b.cps.toList := cps_toList_append a b
theorem from_pre : ∀ (ts : List Str) (k : Nat) (acc : Str), ∃ r, (textFrom k acc ts).cps.toList = acc.cps.toList ++ r
  | [], _, acc => ⟨[], by simp [textFrom]⟩
  | t :: ts, k, acc => by
    obtain ⟨r, e⟩ := from_pre ts (k + 1) (acc ++ (if k > 0 then ", " else "" : String) ++ t)
    refine ⟨(((if k > 0 then ", " else "" : String) : Str).cps.toList ++ t.cps.toList) ++ r, ?_⟩
    rw [textFrom, e, sh_ap, sh_ap]
    simp only [List.append_assoc]
/-- how the text of a value begins -/
def headOk : PyData → Nat → Prop
  | .none, c => c = 78
  | .bool _, c => c = 84 ∨ c = 70
  | .int _, c => isDg c = true
  | .str _, c => c = 34 ∨ c = 39
  | .list _, c => c = 91
  | .tuple _, c => c = 40
  | .dict _, c => c = 123
theorem quote_two (x : Str) : reprQuote x = 34 ∨ reprQuote x = 39 := by
  unfold reprQuote
  split
  · simp
  · simp
theorem fold_pre (q : Nat) : ∀ (l : List Nat) (acc : Array Nat), ∃ r, (l.foldl (fun out c => out ++ (PySem.Builtin.Str.reprChar q c).toArray) acc).toList = acc.toList ++ r
  | [], acc => ⟨[], by simp⟩
  | c :: l, acc => by
    obtain ⟨r, e⟩ := fold_pre q l (acc ++ (PySem.Builtin.Str.reprChar q c).toArray)
    exact ⟨PySem.Builtin.Str.reprChar q c ++ r, by rw [List.foldl_cons, e]; simp⟩
theorem head_of (x : PyData) : ∃ c t, cs x = c :: t ∧ headOk x c := by
  cases x with
  | none => exact ⟨78, _, rfl, rfl⟩
  | bool b => cases b; exact ⟨70, _, rfl, .inr rfl⟩; exact ⟨84, _, rfl, .inl rfl⟩
  | int i =>
    cases h : cs (.int i) with
    | nil => exact absurd h (int_ne i)
    | cons c t => exact ⟨c, t, rfl, int_dg i c (by rw [h]; exact List.mem_cons_self)⟩
  | str x =>
    obtain ⟨r, e⟩ := fold_pre (reprQuote x) x.cps.toList #[reprQuote x]
    refine ⟨reprQuote x, r ++ [reprQuote x], ?_, quote_two x⟩
    show (reprText x).cps.toList = _
    unfold reprText
    rw [← Array.foldl_toList] at *
    simp only [Array.toList_push, e]
    simp
  | list xs =>
    obtain ⟨r, e⟩ := from_pre (PyData.shownAll xs) 0 "["
    refine ⟨91, r ++ [93], ?_, rfl⟩
    show (listText (PyData.shownAll xs)).cps.toList = _
    unfold listText
    rw [sh_ap, e]
    rfl
  | tuple xs =>
    refine ⟨40, (Str.join ", " (PyData.shownAll xs)).cps.toList ++ ((if (PyData.shownAll xs).length == 1 then ",)" else ")" : String) : Str).cps.toList, ?_, rfl⟩
    show (tupleText (PyData.shownAll xs)).cps.toList = _
    unfold tupleText
    rw [sh_ap, sh_ap]
    rfl
  | dict kvs =>
    refine ⟨123, (Str.join ", " (PyData.shownKv kvs)).cps.toList ++ (("}" : String) : Str).cps.toList, ?_, rfl⟩
    show (dictText (PyData.shownKv kvs)).cps.toList = _
    unfold dictText
    rw [sh_ap, sh_ap]
    rfl
def restL : List PyData → List Nat
  | [] => [41]
  | x :: xs => 44 :: 32 :: (cs x ++ restL xs)
theorem join_rest : ∀ (x : PyData) (xs : List PyData), (Str.join ", " (PyData.shownAll (x :: xs))).cps.toList ++ [41] = cs x ++ restL xs
  | x, [] => rfl
  | x, y :: ys => by
    have ih := join_rest y ys
    show (x.shown ++ ", " ++ Str.join ", " (PyData.shownAll (y :: ys))).cps.toList ++ [41] = _
    rw [sh_ap, sh_ap, List.append_assoc, ih, List.append_assoc]
    rfl
theorem cs_t0 : cs (.tuple []) = [40, 41] := rfl
theorem cs_t1 (x : PyData) : cs (.tuple [x]) = 40 :: (cs x ++ [44, 41]) := by
  show (tupleText [x.shown]).cps.toList = _
  unfold tupleText
  rw [sh_ap, sh_ap]
  rfl
theorem cs_t2 (x y : PyData) (xs : List PyData) : cs (.tuple (x :: y :: xs)) = 40 :: (cs x ++ restL (y :: xs)) := by
  rw [← join_rest x (y :: xs)]
  show (tupleText (PyData.shownAll (x :: y :: xs))).cps.toList = _
  unfold tupleText
  rw [sh_ap, sh_ap, if_neg (by simp [PyData.shownAll])]
  rfl
theorem stop_rest (xs : List PyData) (r : List Nat) : Stop (restL xs ++ r) := by
  cases xs with
  | nil => exact .inr ⟨41, _, rfl, .inr rfl⟩
  | cons x xs => exact .inr ⟨44, _, rfl, .inl rfl⟩
theorem head_no {x : PyData} {c : Nat} (h : headOk x c) : c ≠ 41 ∧ c ≠ 44 := by
  cases x <;> simp [headOk, isDg] at h <;> omega
mutual
theorem told : ∀ (y x : PyData) (r r' : List Nat), nest y = true → Stop r → Stop r' → cs x ++ r = cs y ++ r' → x = y ∧ r = r'
  | .int j, x, r, r', _, s, s', e => by
    obtain ⟨c, t, ex, hx⟩ := head_of x
    obtain ⟨c', t', ey, hy⟩ := head_of (.int j)
    have e0 := e
    rw [ex, ey, List.cons_append, List.cons_append] at e0
    injection e0 with ec _
    subst ec
    cases x with
    | int i =>
      have h1 : (cs (.int i) ++ r).takeWhile isDg = (cs (.int j) ++ r').takeWhile isDg := by rw [e]
      rw [take_dg (int_dg i) s, take_dg (int_dg j) s'] at h1
      rw [h1] at e
      exact ⟨by rw [int_inj h1], List.append_cancel_left e⟩
    | none => simp [headOk, isDg] at hx hy; omega
    | bool b => simp [headOk, isDg] at hx hy; omega
    | str b => simp [headOk, isDg] at hx hy; omega
    | list b => simp [headOk, isDg] at hx hy; omega
    | tuple b => simp [headOk, isDg] at hx hy; omega
    | dict b => simp [headOk, isDg] at hx hy; omega
  | .tuple ys, x, r, r', n, s, s', e => by
    obtain ⟨c, t, ex, hx⟩ := head_of x
    obtain ⟨c', t', ey, hy⟩ := head_of (.tuple ys)
    have e0 := e
    rw [ex, ey, List.cons_append, List.cons_append] at e0
    injection e0 with ec _
    subst ec
    have hy' : c = 40 := hy
    subst hy'
    simp only [nest] at n
    cases x with
    | none => simp [headOk, isDg] at hx
    | bool b => simp [headOk, isDg] at hx
    | str b => simp [headOk, isDg] at hx
    | list b => simp [headOk, isDg] at hx
    | int b => simp [headOk, isDg] at hx
    | dict b => simp [headOk, isDg] at hx
    | tuple xs =>
      have key := toldT ys xs r r' n s s' e
      exact ⟨by rw [key.1], key.2⟩
  | .none, _, _, _, n, _, _, _ => by simp [nest] at n
  | .bool _, _, _, _, n, _, _, _ => by simp [nest] at n
  | .str _, _, _, _, n, _, _, _ => by simp [nest] at n
  | .list _, _, _, _, n, _, _, _ => by simp [nest] at n
  | .dict _, _, _, _, n, _, _, _ => by simp [nest] at n
theorem toldT : ∀ (ys xs : List PyData) (r r' : List Nat), nests ys = true → Stop r → Stop r' → cs (.tuple xs) ++ r = cs (.tuple ys) ++ r' → xs = ys ∧ r = r'
  | [], xs, r, r', _, s, s', e => by
    rw [cs_t0] at e
    match xs with
    | [] =>
      rw [cs_t0] at e
      exact ⟨rfl, List.append_cancel_left e⟩
    | [x] =>
      rw [cs_t1] at e
      obtain ⟨c, t, ex, hx⟩ := head_of x
      rw [ex] at e
      simp at e
      exact absurd e.1 (head_no hx).1
    | x :: x' :: xs =>
      rw [cs_t2] at e
      obtain ⟨c, t, ex, hx⟩ := head_of x
      rw [ex] at e
      simp at e
      exact absurd e.1 (head_no hx).1
  | [y], xs, r, r', n, s, s', e => by
    simp only [nests, Bool.and_true] at n
    rw [cs_t1] at e
    match xs with
    | [] =>
      rw [cs_t0] at e
      obtain ⟨c, t, ex, hx⟩ := head_of y
      rw [ex] at e
      simp at e
      exact absurd e.1.symm (head_no hx).1
    | [x] =>
      rw [cs_t1] at e
      simp only [List.cons_append, List.append_assoc, List.cons.injEq, true_and, List.nil_append] at e
      obtain ⟨h1, h2⟩ := told y x _ _ n (.inr ⟨44, _, rfl, .inl rfl⟩) (.inr ⟨44, _, rfl, .inl rfl⟩) e
      injection h2 with _ h2
      injection h2 with _ h2
      exact ⟨by rw [h1], h2⟩
    | x :: x' :: xs =>
      rw [cs_t2] at e
      simp only [List.cons_append, List.append_assoc, List.cons.injEq, true_and, List.nil_append] at e
      obtain ⟨h1, h2⟩ := told y x _ _ n (stop_rest _ _) (.inr ⟨44, _, rfl, .inl rfl⟩) e
      simp [restL] at h2
  | y :: y' :: ys, xs, r, r', n, s, s', e => by
    have n' : nest y = true ∧ nests (y' :: ys) = true := by
      rw [nests, Bool.and_eq_true] at n
      exact n
    rw [cs_t2] at e
    match xs with
    | [] =>
      rw [cs_t0] at e
      obtain ⟨c, t, ex, hx⟩ := head_of y
      rw [ex] at e
      simp at e
      exact absurd e.1.symm (head_no hx).1
    | [x] =>
      rw [cs_t1] at e
      simp only [List.cons_append, List.append_assoc, List.cons.injEq, true_and, List.nil_append] at e
      obtain ⟨h1, h2⟩ := told y x _ _ n'.1 (.inr ⟨44, _, rfl, .inl rfl⟩) (stop_rest _ _) e
      simp [restL] at h2
    | x :: x' :: xs =>
      rw [cs_t2] at e
      simp only [List.cons_append, List.append_assoc, List.cons.injEq, true_and] at e
      obtain ⟨h1, h2⟩ := told y x _ _ n'.1 (stop_rest _ _) (stop_rest _ _) e
      obtain ⟨h3, h4⟩ := toldR (y' :: ys) (x' :: xs) r r' n'.2 s s' h2
      exact ⟨by rw [h1, h3], h4⟩
theorem toldR : ∀ (ys xs : List PyData) (r r' : List Nat), nests ys = true → Stop r → Stop r' → restL xs ++ r = restL ys ++ r' → xs = ys ∧ r = r'
  | [], xs, r, r', _, _, _, e => by
    cases xs with
    | nil => exact ⟨rfl, List.append_cancel_left e⟩
    | cons x xs => simp [restL] at e
  | y :: ys, xs, r, r', n, s, s', e => by
    have n' : nest y = true ∧ nests ys = true := by
      rw [nests, Bool.and_eq_true] at n
      exact n
    cases xs with
    | nil => simp [restL] at e
    | cons x xs =>
      simp only [restL, List.cons_append, List.append_assoc, List.cons.injEq, true_and] at e
      obtain ⟨h1, h2⟩ := told y x _ _ n'.1 (stop_rest _ _) (stop_rest _ _) e
      obtain ⟨h3, h4⟩ := toldR ys xs r r' n'.2 s s' h2
      exact ⟨by rw [h1, h3], h4⟩
end
end ND

/-! ND39: rules for the plain laws, gathered from k10 and k11; loops that find -/
namespace ND
open PySem PySem.Spec L2
section
variable {σ : List SV} {f g h : GE} {x y : D} {s t : GS} {E : Ed}
end
theorem all_lcP {W : WD} {σ : List SV} {i : Nat} {Q : List D → Prop} {c : D → Bool} {P : D → Prop} (sp : DSp) (hs : ∀ x Qd, P x → Qd (.bl (c x)) → sp W [x] Qd fun _ => False) (hi : i < σ.length) : ∀ (xs acc : List D), (∀ x ∈ xs, P x) → acc.length + xs.length ≤ sizeLine → Q (acc ++ xs.map fun x => .bl (c x)) →
    lcG (ggName i) gYes (gCall sp W (fun _ => False) (ND.gCons (gVar i) ND.gNil)) [i] σ Q xs acc
  | [], acc, _, _, q => by simpa [lcG] using q
  | x :: xs, acc, h, hl, q => by
    simp only [List.length_cons] at hl
    have e : (σ.set i (.d x))[i]? = some (.d x) := by simp [hi]
    simp only [lcG, ggName, gYes, gCall, ND.gCons, ND.gNil, gVar, e, if_true, wipeD, List.set_set]
    refine hs x _ (h x List.mem_cons_self) ⟨by omega, ?_⟩
    exact all_lcP sp hs hi xs _ (fun y m => h y (List.mem_cons_of_mem _ m)) (by simp; omega) (by simpa using q)
end ND

/-! ND40: x, y, z = [..], e, f -/
namespace ND
open PySem PySem.Spec L2
section
variable {B : Bs} {X : Cx} {a b c : Expr} {fb fc : GE} {pos : Pos}
end
end ND

/-! ND41: repr of any value, a dict too -/
namespace ND
open PySem PySem.Spec L2
open PySem.SeqAt PySem.AutoSeq1
section
variable {prog : Program} {w : World} {A : Around} {E : Value → Shared → Prop} {s : Shared}
end
section
variable {B : Bs} {X : Cx} {pins : List (Addr × Obj)} {σ : L2.St} {H F : Hp} {s : Shared}
end
end ND

/-! ND42: enumerate of a list or a tuple -/
namespace ND
open PySem PySem.Spec L2
section
variable {prog : Program} {w : World} {A : Around} {E : Value → Shared → Prop} {s : Shared}
end
section
variable {B : Bs} {X : Cx} {e : Expr} {pos : Pos}
end
end ND

/-! ND43: extend, nested targets of comprehensions, small lemmas for the plain laws -/
namespace ND
open PySem PySem.Spec L2
section
variable {B : Bs} {X : Cx} {e : Expr} {pos : Pos}
/-- xs.extend(e), e a list -/
def gExt (k : Nat) (fe : GE) : GS := fun E σ => ∃ xs, σ[k]? = some (.ol xs) ∧ fe σ fun d => ∃ ys, d = .lst ys ∧ xs.length + ys.length ≤ sizeLine ∧ E.nx (σ.set k (.ol (xs ++ ys)))
theorem sd_ext {k : Nat} {x : Str} {px apos cpos : Pos} {fe : GE} (h : PE X (.Call (.Attribute (.Name x px) "extend" apos) [e] [] cpos) (tBM X.K "list" rExtend (tVar k) (tCons (LE B X.kn fe) tNil))) (hs : swapsWith (.Call (.Attribute (.Name x px) "extend" apos) [e] [] cpos) none pos.line X.env = pure false := by rfl) :
    SD B X (.Expr (.Call (.Attribute (.Name x px) "extend" apos) [e] [] cpos) pos) (gExt k fe) :=
  ⟨ps_imp (ps_expr h hs) fun Dn s H ⟨σ, F, E, R, ⟨xs, eo, q⟩, kk⟩ => by
    obtain ⟨a, _, s1, h1, _⟩ := R.ownL eo
    refine ⟨.ref a, s1, .inl ⟨rfl, _, .inl (.inl h1)⟩, σ, F, _, R, q, fun d ⟨ys, ed, hz, qd⟩ F1 H1 v g1 d1 r1 => ?_⟩
    subst ed
    have R1 := R.grow g1 d1
    obtain ⟨a', vs, s2, h2, h3, h4, h5, h6⟩ := R1.ownL eo
    rw [s1] at s2
    cases s2
    cases r1 with
    | @lst b us _ hb rb =>
      exact ⟨a, b, vs, us, rfl, rfl, h2, g1.fh _ _ hb, by rw [h3.length, rb.length]; exact hz, kk.nx _ _ F1 _ g1.ff (R1.write eo (.inl ⟨_, rfl⟩) s1 (x := .ol (xs ++ ys)) ⟨rfl, _, upd_same, h3.append rb⟩) qd⟩⟩
theorem sd_extE {k : Nat} {x : Str} {px apos cpos : Pos} {fe : GE} (hv : PE X (.Name x px) (tVar k)) (ha : ED B X e fe) (hbase : attributeBase (.Name x px) "extend" X.env (eval (.Name x px) X.env) = eval (.Name x px) X.env := by rfl)
    (hfew : ((backTo cpos (starEach [e] X.env)).all (fun x => !x.1) && (backToKw cpos (keywordEach [] X.env)).all (fun x => x.1.isSome) && decide ([e].length + ([] : List Keyword).length + (if ([] : List Keyword).isEmpty then 0 else 1) < 30)) = true := by rfl)
    (hline : (apos.endLine == cpos.line) = true := by rfl) (hs1 : starEach [e] X.env = (false, eval e X.env) :: starEach [] X.env := by rfl) (hplain : (backTo cpos (starEach [] X.env)).any (·.1) = false := by rfl)
    (hs : swapsWith (.Call (.Attribute (.Name x px) "extend" apos) [e] [] cpos) none pos.line X.env = pure false := by rfl) : SD B X (.Expr (.Call (.Attribute (.Name x px) "extend" apos) [e] [] cpos) pos) (gExt k fe) :=
  sd_ext (pe_bm PySem.F.plainAttrs_list PySem.F.slot_list_extend PySem.F.type_list_extend mt_extend hv (pa_cons ha.run pa_nil hs1) hbase hfew hline hs1 hplain) hs
end
/-! ### x, y = e, [..] -/
section
variable {B : Bs} {X : Cx} {a b : Expr} {pos : Pos} {fa : GE}
@[simp] def gParR (i j : Nat) (fa : GE) (fs : GA) (E : Ed) (σ : List SV) : Prop := fa σ fun y => fs σ fun ds => E.nx ((σ.set i (.d y)).set j (.ol ds))
theorem sd_parR {i j : Nat} {x y : Str} {px py pt : Pos} {kt k2 pt2} {fs : GA} (hc : X.calm = true) (hN : X.N.Nodup) (hi : X.N[i]? = some x) (hj : X.N[j]? = some y) (hij : i ≠ j)
    (hx : X.env.scope.names.lookup x = some .local) (hy : X.env.scope.names.lookup y = some .local) (ha : ED B X a fa) (hb : FD B X b fs)
    (hw : swappedStores [.Tuple [.Name x px, .Name y py] kt pt] (.Tuple [a, b] k2 pt2) X.env = pure (some [x, y]))
    (hs : swapsWithSole [.Tuple [.Name x px, .Name y py] kt pt] (.Tuple [a, b] k2 pt2) pos.line X.env = pure false := by rfl)
    (h1 : starEach [a, b] X.env = (false, eval a X.env) :: starEach [b] X.env := by rfl) (h2 : starEach [b] X.env = (false, eval b X.env) :: starEach [] X.env := by rfl) :
    SD B X (.Assign [.Tuple [.Name x px, .Name y py] kt pt] (.Tuple [a, b] k2 pt2) pos) (gParR i j fa fs) :=
  ⟨ps_imp (ps_par hc hN hi hj hij hx hy (pa_cons ha.run (pa_cons hb.run pa_nil h2) h1) hw hs) fun Dn s H ⟨σ, F, E, R, q, k⟩ => ⟨σ, F, _, R, q, fun y qy F1 H1 v g1 d1 r1 => by
    refine ⟨σ, F1, _, R.grow g1 d1, qy, fun ds qd F2 H2 p vs g2 d2 hp fp ep rs => ?_⟩
    have R2 := ((R.grow g1 d1).set (i := i) r1).setNew (i := j) (x := .ol ds) g2 d2 hp fp ⟨rfl, vs, ep, rs⟩
    exact ⟨_, _, rfl, k.nx _ _ F2 H2 (g1.trans g2).ff R2 qd⟩⟩⟩
end
/-! ### nested targets of a comprehension -/
section
variable {B : Bs} {K : Kn} {own : List Nat}
end
/-! ### small things -/
theorem rok_b (a : Bool) : Rok (.bl a) := by cases a <;> exact ⟨by decide +kernel, by decide +kernel, by decide +kernel, by decide +kernel⟩
theorem rok_bb (a b : Bool) : Rok (.tup [.bl a, .bl b]) := by cases a <;> cases b <;> exact ⟨by decide +kernel, by decide +kernel, by decide +kernel, by decide +kernel⟩
theorem seq_mid {σ : List SV} {P : List SV → Prop} {s t : GS} {E : Ed} (rest : ∀ σ', P σ' → t E σ') (h : ∀ E' : Ed, E'.rt = E.rt → (∀ σ', P σ' → E'.nx σ') → s E' σ) : gSeq s t E σ := h { E with nx := t E } rfl rest
theorem pok_of {n m b : Nat} {ys : List D} (h : ∀ y ∈ ys, Pok n m b y) : Pok (n + 1) m ((b + 2) * ys.length + 3) (.tup ys) ∧ Pok (n + 1) m ((b + 2) * ys.length + 3) (.lst ys) := by
  have : rps n ys = true ∧ sms (2 ^ m) ys = true ∧ rszs ys ≤ (b + 2) * ys.length := by
    induction ys with
    | nil => simp [rps, sms, rszs]
    | cons y ys ih =>
      obtain ⟨h1, h2, h3⟩ := ih fun z m => h z (List.mem_cons_of_mem _ m)
      have hy := h y List.mem_cons_self
      have hz := hy.z
      refine ⟨by simp [rps, hy.r, h1], by simp [sms, hy.b, h2], ?_⟩
      simp only [rszs, List.length_cons, Nat.mul_add, Nat.mul_one] at h3 ⊢
      omega
  obtain ⟨h1, h2, h3⟩ := this
  exact ⟨⟨by simpa only [rp] using h1, by simpa only [sm] using h2, by simp only [rsz]; omega⟩, ⟨by simpa only [rp] using h1, by simpa only [sm] using h2, by simp only [rsz]; omega⟩⟩
theorem cdv_scale {k a b d : Int} (hk : 1 ≤ k) (hd : d ≠ 0) : cdv (k * a) (k * b) (k * d) = k * cdv a b d := by
  unfold cdv
  rw [Int.natAbs_mul, Int.natAbs_mul, Int.natAbs_mul, Nat.gcd_mul_left, Nat.gcd_mul_left, Int.natCast_mul]
  have hn : ((k.natAbs : Nat) : Int) = k := by omega
  rw [hn]
  rcases Int.lt_or_gt_of_ne hd with h | h
  · have : k * d < 0 := Int.mul_neg_of_pos_of_neg (by omega) h
    rw [if_pos h, if_pos this, Int.mul_neg]
  · have : 0 < k * d := Int.mul_pos (by omega) h
    rw [if_neg (by omega), if_neg (by omega)]
theorem red_scale {k a b d : Int} (hk : 1 ≤ k) (hd : d ≠ 0) : red (k * a) (k * b) (k * d) = red a b d := by
  unfold red
  rw [cdv_scale hk hd, Int.mul_fdiv_mul_of_pos _ _ (by omega), Int.mul_fdiv_mul_of_pos _ _ (by omega), Int.mul_fdiv_mul_of_pos _ _ (by omega)]
/-- fractions that are the same are the same reduced -/
theorem red_cong {a b d a' b' d' : Int} (h : 1 ≤ d) (h' : 1 ≤ d') (e1 : a * d' = a' * d) (e2 : b * d' = b' * d) : red a b d = red a' b' d' := by
  rw [← red_scale (k := d') h' (by omega : d ≠ 0), ← red_scale (k := d) (a := a') h (by omega : d' ≠ 0), Int.mul_comm d' a, Int.mul_comm d' b, e1, e2, Int.mul_comm a' d, Int.mul_comm b' d, Int.mul_comm d' d]
/-- a reduced number, its parts -/
theorem red_parts {n : Nat} {a b d : Int} (ha : Sz n a) (hb : Sz n b) (hd : Sz n d) (h : 1 ≤ d) : ∃ x y z, red a b d = tri x y z ∧ Num n x y z ∧ x * d = a * z ∧ y * d = b * z := by
  obtain ⟨x, y, z, e, hn⟩ := red_num ha hb hd (by omega)
  obtain ⟨p, q, r, e2, h1, h2, h3⟩ := red_prop (a := a) (b := b) (d := d) (by omega)
  rw [e] at e2
  simp at e2
  obtain ⟨rfl, rfl, rfl⟩ := e2
  exact ⟨x, y, z, e, hn, h2, h3⟩
end ND

/-! ND44: tuples of integers, sides of floors, keys -/
namespace ND
open PySem PySem.Spec L2
def tD (s : List Int) : D := .tup (s.map D.int)
theorem eqvs_ints : ∀ s t : List Int, PyData.eqvAll (toPys (s.map D.int)) (toPys (t.map D.int)) = decide (s = t)
  | [], [] => rfl
  | [], _ :: _ => rfl
  | _ :: _, [] => rfl
  | x :: s, y :: t => by
    have h := eqvs_ints s t
    have e : PyData.eqvAll (toPys ((x :: s).map D.int)) (toPys ((y :: t).map D.int)) = ((x == y) && PyData.eqvAll (toPys (s.map D.int)) (toPys (t.map D.int))) := rfl
    rw [e, h, Bool.eq_iff_iff]
    simp
theorem eqb_tD (s t : List Int) : eqb (tD s) (tD t) = decide (s = t) := eqvs_ints s t
theorem pls_int (n : Nat) : ∀ s : List Int, pls n (s.map D.int) = true
  | [] => rfl
  | x :: s => by simp [pls, pls_int n s]
theorem pl_tD (n : Nat) (s : List Int) : pl (n + 1) (tD s) = true := by
  show pls n (s.map D.int) = true
  exact pls_int n s
theorem pl_il (n : Nat) (s : List Int) : pl (n + 1) (.lst (s.map D.int)) = true := by
  show pls n (s.map D.int) = true
  exact pls_int n s
theorem pls_tDs (n : Nat) : ∀ L : List (List Int), pls (n + 1) (L.map tD) = true
  | [] => rfl
  | x :: s => by simp [pls, pl_tD, pls_tDs n s]
theorem pl_tDs (n : Nat) (L : List (List Int)) : pl (n + 2) (.tup (L.map tD)) = true ∧ pl (n + 2) (.lst (L.map tD)) = true := ⟨pls_tDs n L, pls_tDs n L⟩
theorem inb_tD (s : List Int) : ∀ L : List (List Int), inb (tD s) (L.map tD) = decide (s ∈ L)
  | [] => rfl
  | t :: L => by
    have h := inb_tD s L
    unfold inb at h ⊢
    rw [List.map_cons, List.any_cons, h, eqb_tD, Bool.eq_iff_iff, Bool.or_eq_true, decide_eq_true_eq, decide_eq_true_eq, decide_eq_true_eq, List.mem_cons]
    exact or_congr eq_comm Iff.rfl
theorem inb_i (r : Int) : ∀ l : List Int, inb (.int r) (l.map D.int) = decide (r ∈ l)
  | [] => rfl
  | t :: l => by
    have h := inb_i r l
    unfold inb at h ⊢
    have e : eqb (.int t) (.int r) = decide (t = r) := eqb_int t r
    rw [List.map_cons, List.any_cons, h, e, Bool.eq_iff_iff, Bool.or_eq_true, decide_eq_true_eq, decide_eq_true_eq, decide_eq_true_eq, List.mem_cons]
    exact or_congr eq_comm Iff.rfl
/-! ### sides -/
def dirs5 : List Int := [0, 1, 2, 3, 4]
def zer5 : List Int := [0, 0, 0, 0, 0]
def unit5 (r : Int) : List Int := dirs5.map fun j => if j = r then 1 else 0
def neg5 (s : List Int) : List Int := s.map fun x => -x
def ten5 : List (List Int) := [[-1, -1, 1, -1, 1], [-1, 1, -1, -1, 1], [-1, 1, -1, 1, -1], [-1, 1, -1, 1, 1], [-1, 1, 1, -1, 1], [1, -1, -1, 1, -1], [1, -1, 1, -1, -1], [1, -1, 1, -1, 1], [1, -1, 1, 1, -1], [1, 1, -1, 1, -1]]
def sidesL : List Int → List (List Int)
  | [] => [zer5]
  | [r] => [neg5 (unit5 r), unit5 r]
  | _ => ten5
/-- the ways in which keys can be whole -/
def WL : List (List Int) := [[], [0], [1], [2], [3], [4], [0, 1, 2, 3, 4]]
def at0 (s : List Int) (j : Int) : Int := s.getD j.toNat 0
/-! ### keys: (a r + b r g) / d -/
structure KR (a b : Int → Int) : Prop where
  k0 : a 2 = -b 1 - a 0 ∧ b 2 = -a 1 - b 1 - b 0
  k1 : a 3 = -b 2 - a 1 ∧ b 3 = -a 2 - b 2 - b 1
  k2 : a 4 = -b 3 - a 2 ∧ b 4 = -a 3 - b 3 - b 2
def whB (a b : Int → Int) (d r : Int) : Bool := decide (a r % d = 0) && decide (b r % d = 0)
def whL (a b : Int → Int) (d : Int) : List Int := dirs5.filter (whB a b d)
def keyD (a b : Int → Int) (d : Int) : D := .tup [red (a 0) (b 0) d, red (a 1) (b 1) d, red (a 2) (b 2) d, red (a 3) (b 3) d, red (a 4) (b 4) d]
abbrev pr (x y : Int) : D := .tup [.int x, .int y]
def keysP (a b : Int → Int) : D := .tup [pr (a 0) (b 0), pr (a 1) (b 1), pr (a 2) (b 2), pr (a 3) (b 3), pr (a 4) (b 4)]
structure KA (n : Nat) (a b : Int → Int) (d : Int) : Prop where
  r : KR a b
  d1 : 1 ≤ d
  sd : Sz n d
  sa : Szf n a
  sb : Szf n b
abbrev flo (k : D) (s : List Int) : D := .obj "Floor" [("all_keys", k), ("side", tD s)]
theorem mod_iff {a d : Int} : a % d = 0 ↔ ∃ k, a = d * k := ⟨fun h => ⟨a / d, by
  have := Int.mul_ediv_add_emod a d
  omega⟩, fun ⟨k, e⟩ => by rw [e]; exact Int.mul_emod_right d k⟩
theorem wh_iff {a b : Int → Int} {d r : Int} : whB a b d r = true ↔ (∃ k, a r = d * k) ∧ ∃ k, b r = d * k := by
  unfold whB
  rw [Bool.and_eq_true, decide_eq_true_eq, decide_eq_true_eq, mod_iff, mod_iff]
/-- the other two of the five laws -/
theorem KR.k3 {a b : Int → Int} (h : KR a b) : a 0 = -b 4 - a 3 ∧ b 0 = -a 4 - b 4 - b 3 := by
  obtain ⟨⟨a2, b2⟩, ⟨a3, b3⟩, ⟨a4, b4⟩⟩ := h
  omega
theorem KR.k4 {a b : Int → Int} (h : KR a b) : a 1 = -b 0 - a 4 ∧ b 1 = -a 0 - b 0 - b 4 := by
  obtain ⟨⟨a2, b2⟩, ⟨a3, b3⟩, ⟨a4, b4⟩⟩ := h
  omega
def Mu (d z : Int) : Prop := ∃ k, z = d * k
theorem Mu.add {d x y : Int} : Mu d x → Mu d y → Mu d (x + y) := fun ⟨k, e⟩ ⟨l, f⟩ => ⟨k + l, by rw [e, f, Int.mul_add]⟩
theorem Mu.neg {d x : Int} : Mu d x → Mu d (-x) := fun ⟨k, e⟩ => ⟨-k, by rw [e, Int.mul_neg]⟩
theorem Mu.sub {d x y : Int} (h : Mu d x) (k : Mu d y) : Mu d (x - y) := h.add k.neg
theorem mu_next {d p q r s u v : Int} (e1 : u = -s - p) (e2 : v = -r - s - q) (h : Mu d p ∧ Mu d q) (k : Mu d r ∧ Mu d s) : Mu d u ∧ Mu d v := by
  subst e1 e2
  exact ⟨k.2.neg.sub h.1, (k.1.neg.sub k.2).sub h.2⟩
theorem mu_mid {d p q r s u v : Int} (e1 : u = -s - p) (e2 : v = -r - s - q) (h : Mu d p ∧ Mu d q) (k : Mu d u ∧ Mu d v) : Mu d r ∧ Mu d s := by
  have hs : Mu d s := by
    have := (k.1.add h.1).neg
    rwa [show -(u + p) = s by omega] at this
  have := ((k.2.add h.2).neg).sub hs
  rw [show -(v + q) - s = r by omega] at this
  exact ⟨this, hs⟩
/-- two whole keys make all of them whole -/
theorem wh_all {a b : Int → Int} {d i j : Int} (h : KR a b) (hi : i ∈ dirs5) (hj : j ∈ dirs5) (hij : i < j) (w1 : whB a b d i = true) (w2 : whB a b d j = true) : whB a b d 0 = true ∧ whB a b d 1 = true ∧ whB a b d 2 = true ∧ whB a b d 3 = true ∧ whB a b d 4 = true := by
  obtain ⟨a3, b3⟩ := h.k3
  obtain ⟨a4, b4⟩ := h.k4
  obtain ⟨⟨a0, b0⟩, ⟨a1, b1⟩, ⟨a2, b2⟩⟩ := h
  simp only [wh_iff] at w1 w2 ⊢
  have fin : (Mu d (a 0) ∧ Mu d (b 0)) → (Mu d (a 1) ∧ Mu d (b 1)) → (Mu d (a 0) ∧ Mu d (b 0)) ∧ (Mu d (a 1) ∧ Mu d (b 1)) ∧ (Mu d (a 2) ∧ Mu d (b 2)) ∧ (Mu d (a 3) ∧ Mu d (b 3)) ∧ (Mu d (a 4) ∧ Mu d (b 4)) := fun h0 h1 => by
    have h2 := mu_next a0 b0 h0 h1
    have h3 := mu_next a1 b1 h1 h2
    exact ⟨h0, h1, h2, h3, mu_next a2 b2 h2 h3⟩
  simp only [dirs5, List.mem_cons, List.not_mem_nil, or_false] at hi hj
  rcases hi with rfl | rfl | rfl | rfl | rfl <;> rcases hj with rfl | rfl | rfl | rfl | rfl <;> first
    | (exfalso; omega)
    | skip
  · exact fin w1 w2
  · exact fin w1 (mu_mid a0 b0 w1 w2)
  · have h4 := mu_mid a3 b3 w2 w1
    exact fin w1 (mu_next a4 b4 h4 w1)
  · exact fin w1 (mu_next a4 b4 w2 w1)
  · have h3 := mu_next a1 b1 w1 w2
    have h4 := mu_next a2 b2 w2 h3
    exact fin (mu_next a3 b3 h3 h4) w1
  · have h2 := mu_mid a1 b1 w1 w2
    have h4 := mu_next a2 b2 h2 w2
    exact fin (mu_next a3 b3 w2 h4) w1
  · exact fin (mu_mid a4 b4 w2 w1) w1
  · have h4 := mu_next a2 b2 w1 w2
    have h0 := mu_next a3 b3 w2 h4
    exact fin h0 (mu_next a4 b4 h4 h0)
  · have h3 := mu_mid a2 b2 w1 w2
    have h0 := mu_next a3 b3 h3 w2
    exact fin h0 (mu_next a4 b4 w2 h0)
  · have h0 := mu_next a3 b3 w1 w2
    exact fin h0 (mu_next a4 b4 w2 h0)
theorem whL_mem {a b : Int → Int} {d : Int} (h : KR a b) : whL a b d ∈ WL := by
  unfold whL dirs5
  have all := fun i j hi hj hij => wh_all (d := d) (i := i) (j := j) h hi hj hij
  by_cases h0 : whB a b d 0 = true <;> by_cases h1 : whB a b d 1 = true <;> by_cases h2 : whB a b d 2 = true <;> by_cases h3 : whB a b d 3 = true <;> by_cases h4 : whB a b d 4 = true <;> first
    | (simp only [List.filter_cons, h0, h1, h2, h3, h4, if_true, if_false, List.filter_nil]; simp [WL]; done)
    | (exfalso
       first
       | (have := all 0 1 (by decide) (by decide) (by decide) h0 h1; simp_all)
       | (have := all 0 2 (by decide) (by decide) (by decide) h0 h2; simp_all)
       | (have := all 0 3 (by decide) (by decide) (by decide) h0 h3; simp_all)
       | (have := all 0 4 (by decide) (by decide) (by decide) h0 h4; simp_all)
       | (have := all 1 2 (by decide) (by decide) (by decide) h1 h2; simp_all)
       | (have := all 1 3 (by decide) (by decide) (by decide) h1 h3; simp_all)
       | (have := all 1 4 (by decide) (by decide) (by decide) h1 h4; simp_all)
       | (have := all 2 3 (by decide) (by decide) (by decide) h2 h3; simp_all)
       | (have := all 2 4 (by decide) (by decide) (by decide) h2 h4; simp_all)
       | (have := all 3 4 (by decide) (by decide) (by decide) h3 h4; simp_all))
/-! ### numbers as fractions -/
/-- x is the number (p + q g) / d -/
def Fr (n : Nat) (x : D) (p q d : Int) : Prop := ∃ u v w, x = tri u v w ∧ Num n u v w ∧ u * d = p * w ∧ v * d = q * w
theorem fr_red {n : Nat} {p q d : Int} (hp : Sz n p) (hq : Sz n q) (hd : Sz n d) (h : 1 ≤ d) : Fr n (red p q d) p q d := by
  obtain ⟨x, y, z, e, hn, e1, e2⟩ := red_parts hp hq hd h
  exact ⟨x, y, z, e, hn, e1, e2⟩
end ND

/-! ND45: keys of floors: the next one; what is a side -/
namespace ND
open PySem PySem.Spec L2
/-- the next key of two -/
theorem key_next {p q r s u v d : Int} {x y z x' y' z' : Int} (e1 : u = -s - p) (e2 : v = -r - s - q) (h1 : x' * d = p * z') (h2 : y' * d = q * z') (k1 : x * d = r * z) (k2 : y * d = s * z) (hz : 1 ≤ z) (hz' : 1 ≤ z') (hd : 1 ≤ d) : red (-y * z' + -x' * z) (-(x + y) * z' + -y' * z) (z * z') = red u v d := by
  have hzz : 1 ≤ z * z' := Int.mul_le_mul hz hz' (by decide) (by omega)
  refine red_cong hzz hd ?_ ?_
  · subst e1
    clear e2 h2 k1 hzz hz hz' hd
    grind
  · subst e2
    clear e1 hzz hz hz' hd
    grind
def isSide (wl : List Int) (x : D) : Bool := isFive x && inb x ((sidesL wl).map tD)
theorem KA.up {n m : Nat} {a b : Int → Int} {d : Int} (h : KA n a b d) (e : n ≤ m) : KA m a b d := ⟨h.r, h.d1, h.sd.mono e, fun i i0 i4 => (h.sa i i0 i4).mono e, fun i i0 i4 => (h.sb i i0 i4).mono e⟩
theorem Fr.up {n m : Nat} {x : D} {p q d : Int} (h : Fr n x p q d) (e : n ≤ m) : Fr m x p q d := by
  obtain ⟨u, v, w, rfl, hn, e1, e2⟩ := h
  exact ⟨u, v, w, rfl, hn.up e, e1, e2⟩
theorem KA.fr {n : Nat} {a b : Int → Int} {d : Int} (h : KA n a b d) {r : Int} (r0 : 0 ≤ r) (r4 : r ≤ 4) : Fr n (red (a r) (b r) d) (a r) (b r) d := fr_red (h.sa r r0 r4) (h.sb r r0 r4) h.sd h.d1
/-- a fraction, reduced -/
theorem Fr.norm {u v w p q d : Int} (h1 : 1 ≤ w) (h2 : 1 ≤ d) (e1 : u * d = p * w) (e2 : v * d = q * w) : red u v w = red p q d := red_cong h1 h2 e1 e2
theorem wh_red {x y z p q d : Int} (hz : 1 ≤ z) (hd : 1 ≤ d) (e1 : x * d = p * z) (e2 : y * d = q * z) : wholeB x y z = (decide (p % d = 0) && decide (q % d = 0)) := by
  have one : ∀ {x p : Int}, x * d = p * z → (x % z = 0 ↔ p % d = 0) := fun {x p} e => by
    rw [mod_iff, mod_iff]
    constructor
    · rintro ⟨k, rfl⟩
      refine ⟨k, ?_⟩
      have : z * (d * k) = z * p := by rw [← Int.mul_comm p z, ← e]; grind
      exact (Int.eq_of_mul_eq_mul_left (by omega) this).symm
    · rintro ⟨k, rfl⟩
      refine ⟨k, ?_⟩
      have : d * x = d * (z * k) := by rw [Int.mul_comm d x, e]; grind
      exact Int.eq_of_mul_eq_mul_left (by omega) this
  unfold wholeB
  by_cases h : x % z = 0
  · rw [if_pos h, decide_eq_true ((one e1).mp h), Bool.true_and]
    exact decide_eq_decide.mpr (one e2)
  · rw [if_neg h, decide_eq_false fun k => h ((one e1).mpr k), Bool.false_and]
theorem sidesL_five : ∀ wl ∈ WL, ∀ s ∈ sidesL wl, s.length = 5 := by decide +kernel
theorem isSide_yes {wl s : List Int} (hw : wl ∈ WL) (h : s ∈ sidesL wl) : isSide wl (tD s) = true := by
  unfold isSide
  rw [inb_tD, decide_eq_true h, Bool.and_true]
  refine five_ok (by rw [List.length_map]; exact sidesL_five wl hw s h) ?_
  rw [List.all_map]
  exact List.all_eq_true.mpr fun _ _ => rfl
theorem tyk1_tD {known : Str → Bool} (s : List Int) : Ty1 known (tD s) := ⟨rfl, fun xs e y m => by
  cases e
  obtain ⟨i, _, rfl⟩ := List.mem_map.mp m
  rfl⟩
theorem five_list {s : List Int} (h : s.length = 5) : ∃ a b c d e, s = [a, b, c, d, e] := by
  match s, h with
  | [a, b, c, d, e], _ => exact ⟨a, b, c, d, e, rfl⟩
/-- sorted, where the items are known -/
theorem sort_is {L M : List (List Int)} {Q : List D → Prop} (hl : ∀ s ∈ M, s.length = 5) (hp : L.Perm M) (hs : L.Pairwise fun x y => lexI y x = false) (q : Q (L.map tD)) : sortT [.lst (M.map tD)] Q := by
  have hn : ∀ s : List Int, numsT (tD s) = s := numsT_map
  refine ⟨⟨5, by decide, fun x hx => ?_⟩, fun ys h1 h2 => ?_⟩
  · obtain ⟨s, hm, rfl⟩ := List.mem_map.mp hx
    exact ⟨s, rfl, hl s hm⟩
  · have e : ys = L.map tD := by
      refine List.Perm.eq_of_pairwise (le := fun x y => lexI (numsT y) (numsT x) = false) (fun a b ha hb h3 h4 => ?_) h2 ?_ (h1.trans (hp.map tD).symm)
      · obtain ⟨s, _, rfl⟩ := List.mem_map.mp (h1.mem_iff.mp ha)
        obtain ⟨t, _, rfl⟩ := List.mem_map.mp hb
        rw [hn, hn] at h3 h4
        rw [lexI_tot h4 h3]
      · rw [List.pairwise_map]
        exact hs.imp fun {x y} h => by rw [hn, hn]; exact h
    rw [e]
    exact q
/-! ### comprehensions by what they say -/
theorem lc_mf {σ : List SV} {i : Nat} {ft : GT} {fe : GE} {Q : List D → Prop} (c : D → Bool) (v : D → D) (hi : i < σ.length) : ∀ (xs acc : List D), (∀ x ∈ xs, ∀ Qd : Bool → Prop, Qd (c x) → ft (σ.set i (.d x)) Qd) → (∀ x ∈ xs, c x = true → ∀ Qd : D → Prop, Qd (v x) → fe (σ.set i (.d x)) Qd) → acc.length + xs.length ≤ sizeLine → Q (acc ++ (xs.filter c).map v) → lcG (ggName i) ft fe [i] σ Q xs acc
  | [], acc, _, _, _, q => by simpa [lcG] using q
  | x :: xs, acc, h, k, hl, q => by
    simp only [List.length_cons] at hl
    simp only [lcG, ggName, wipeD, List.set_set]
    refine h x List.mem_cons_self _ ?_
    have rest := fun acc' q' => lc_mf (Q := Q) c v hi xs acc' (fun y m => h y (List.mem_cons_of_mem _ m)) (fun y m => k y (List.mem_cons_of_mem _ m)) q'
    cases hc : c x
    · simp only [Bool.false_eq_true, if_false]
      exact rest acc (by omega) (by simpa [hc] using q)
    · simp only [if_true]
      refine k x List.mem_cons_self hc _ ?_
      exact ⟨by omega, rest _ (by simp; omega) (by simpa [hc] using q)⟩
/-- what is said of integers, of data -/
def nB (p : Int → Bool) : D → Bool
  | .int r => p r
  | _ => false
def nV {α : Type} (z : α) (f : Int → α) : D → α
  | .int r => f r
  | _ => z
theorem filter_nB (p : Int → Bool) (l : List Int) : (l.map D.int).filter (nB p) = (l.filter p).map D.int := by
  rw [List.filter_map]
  rfl
theorem map_nV (f : Int → D) (l : List Int) : (l.map D.int).map (nV .non f) = l.map f := by
  rw [List.map_map]
  rfl
/-- [.. for j in l if ..], l integers -/
theorem lc_n {σ : List SV} {i : Nat} {ft : GT} {fe : GE} {Q : List D → Prop} (c : Int → Bool) (v : Int → D) (l : List Int) (hi : i < σ.length) (h : ∀ x ∈ l, ∀ Qd : Bool → Prop, Qd (c x) → ft (σ.set i (.d (.int x))) Qd) (k : ∀ x ∈ l, c x = true → ∀ Qd : D → Prop, Qd (v x) → fe (σ.set i (.d (.int x))) Qd) (hl : l.length ≤ sizeLine) (q : Q ((l.filter c).map v)) : lcG (ggName i) ft fe [i] σ Q (l.map D.int) [] := by
  refine lc_mf (nB c) (nV .non v) hi _ [] (fun x m Qd q => ?_) (fun x m hc Qd q => ?_) (by simpa using hl) ?_
  · obtain ⟨j, hj, rfl⟩ := List.mem_map.mp m
    exact h j hj Qd q
  · obtain ⟨j, hj, rfl⟩ := List.mem_map.mp m
    exact k j hj hc Qd q
  · rw [filter_nB, map_nV]
    exact q
/-- [j for j in l if ..] -/
theorem lc_fn {σ : List SV} {i : Nat} {ft : GT} {Q : List D → Prop} (c : Int → Bool) (l : List Int) (hi : i < σ.length) (h : ∀ x ∈ l, ∀ Qd : Bool → Prop, Qd (c x) → ft (σ.set i (.d (.int x))) Qd) (hl : l.length ≤ sizeLine) (q : Q ((l.filter c).map D.int)) : lcG (ggName i) ft (gVar i) [i] σ Q (l.map D.int) [] :=
  lc_n c D.int l hi h (fun x _ _ Qd q => by
    show gVar i (σ.set i (.d (.int x))) Qd
    unfold gVar
    rw [List.getElem?_set_self hi]
    exact q) hl q
theorem dirs_in {r : Int} (h : r ∈ dirs5) : 0 ≤ r ∧ r ≤ 4 := by
  simp only [dirs5, List.mem_cons, List.not_mem_nil, or_false] at h
  omega
theorem in_dirs {r : Int} (h0 : 0 ≤ r) (h4 : r ≤ 4) : r ∈ dirs5 := by
  simp only [dirs5, List.mem_cons, List.not_mem_nil, or_false]
  omega
/-- an item of the keys -/
theorem ix_key {a b : Int → Int} {d r : Int} (r0 : 0 ≤ r) (r4 : r ≤ 4) {Q : D → Prop} (q : Q (red (a r) (b r) d)) : ixD (keyD a b d) (.int r) Q := by
  rcases five_of r0 r4 with h | h | h | h | h <;> subst h <;> exact ⟨_, rfl, q⟩
theorem ix_keysP {a b : Int → Int} {r : Int} (r0 : 0 ≤ r) (r4 : r ≤ 4) {Q : D → Prop} (q : Q (pr (a r) (b r))) : ixD (keysP a b) (.int r) Q := by
  rcases five_of r0 r4 with h | h | h | h | h <;> subst h <;> exact ⟨_, rfl, q⟩
theorem at_five {s : List Int} (h : s.length = 5) {r : Int} (r0 : 0 ≤ r) (r4 : r ≤ 4) {Q : D → Prop} (q : Q (.int (at0 s r))) : ixD (tD s) (.int r) Q := by
  obtain ⟨a, b, c, d, e, rfl⟩ := five_list h
  rcases five_of r0 r4 with h | h | h | h | h <;> subst h <;> exact ⟨_, rfl, q⟩
/-- a for over range(n), by what holds before each turn -/
theorem forG_ix {gt : GG} {g : GS} {E : Ed} (S : Nat → List SV → Prop) (lo : Int) : ∀ (n i : Nat) (σ : List SV), S i σ → (∀ σ, S (i + n) σ → E.nx σ) →
    (∀ j, i ≤ j → j < i + n → ∀ σ, S j σ → ∀ E' : Ed, E'.rt = E.rt → (∀ σ2, S (j + 1) σ2 → E'.nx σ2) → (∀ σ2, S (j + 1) σ2 → E'.ct σ2) → gt (.int (lo + (j : Nat))) σ fun σ' => g E' σ') → forG gt g ((List.range' i n).map fun (j : Nat) => D.int (lo + (j : Int))) E σ
  | 0, i, σ, h, hn, _ => hn σ h
  | n + 1, i, σ, h, hn, step => by
    rw [List.range'_succ, List.map_cons]
    have rest : ∀ σ2, S (i + 1) σ2 → forG gt g ((List.range' (i + 1) n).map fun (j : Nat) => D.int (lo + (j : Int))) E σ2 := fun σ2 h2 =>
      forG_ix S lo n (i + 1) σ2 h2 (fun σ3 h3 => hn σ3 (by rw [show i + (n + 1) = i + 1 + n by omega]; exact h3)) fun j h0 h1 => step j (by omega) (by omega)
    exact step i (Nat.le_refl _) (by omega) σ h { E with nx := forG gt g _ E, ct := forG gt g _ E, bk := E.nx } rfl rest rest
theorem forG_rng {gt : GG} {g : GS} {E : Ed} (S : Nat → List SV → Prop) (lo : Int) (n : Nat) (σ : List SV) (h : S 0 σ) (hn : ∀ σ, S n σ → E.nx σ)
    (step : ∀ j, j < n → ∀ σ, S j σ → ∀ E' : Ed, E'.rt = E.rt → (∀ σ2, S (j + 1) σ2 → E'.nx σ2) → (∀ σ2, S (j + 1) σ2 → E'.ct σ2) → gt (.int (lo + (j : Nat))) σ fun σ' => g E' σ') : forG gt g (intsFrom lo n) E σ := by
  unfold intsFrom
  rw [List.range_eq_range']
  exact forG_ix S lo n 0 σ h (fun σ h => hn σ (by rwa [Nat.zero_add] at h)) fun j _ h1 => step j (by omega)
def rot5 (t : Int) : List Int := dirs5.map fun j => at0 [1, -1, 1, 1, -1] ((j - t) % 5)
def acc10 (n : Nat) : List (List Int) := (dirs5.take n).flatMap fun t => [rot5 t, neg5 (rot5 t)]
theorem acc10_perm : ten5.Perm (acc10 5) := by decide +kernel
theorem acc10_five : ∀ s ∈ acc10 5, s.length = 5 := by decide +kernel
theorem ten5_srt : ten5.Pairwise fun x y => lexI y x = false := by decide +kernel
theorem ints_nOf : ∀ {xs : List D}, xs.all isI = true → xs = (xs.map nOf).map D.int
  | [], _ => rfl
  | x :: xs, h => by
    simp only [List.all_cons, Bool.and_eq_true] at h
    obtain ⟨i, rfl⟩ := isI_n h.1
    rw [List.map_cons, List.map_cons, ← ints_nOf h.2]
    rfl
theorem tup_tD {xs : List D} (h : xs.all isI = true) : D.tup xs = tD (xs.map nOf) := congrArg D.tup (ints_nOf h)
/-! ### keys from two neighbours -/
theorem keys_ex {n : Nat} {r p q u v : Int} (r0 : 0 ≤ r) (r4 : r ≤ 4) (hp : Sz n p) (hq : Sz n q) (hu : Sz n u) (hv : Sz n v) : ∃ a b, KR a b ∧ a r = p ∧ b r = q ∧ a ((r + 1) % 5) = u ∧ b ((r + 1) % 5) = v ∧ Szf (n + 3) a ∧ Szf (n + 3) b := by
  have z1 : Sz (n + 3) p := hp.mono (by omega)
  have z2 : Sz (n + 3) q := hq.mono (by omega)
  have z3 : Sz (n + 3) u := hu.mono (by omega)
  have z4 : Sz (n + 3) v := hv.mono (by omega)
  have z5 : Sz (n + 3) (-v - p) := (hv.neg.sub hp).mono (by omega)
  have z6 : Sz (n + 3) (-u - v - q) := ((hu.neg.sub hv).sub (hq.mono (by omega))).mono (by omega)
  have z7 : Sz (n + 3) (v + q) := (hv.add hq).mono (by omega)
  have z8 : Sz (n + 3) (u + v + p + q) := ((hu.add hv).add (hp.mono (by omega))).add (hq.mono (by omega))
  have z9 : Sz (n + 3) (-u - q) := (hu.neg.sub hq).mono (by omega)
  have z0 : Sz (n + 3) (-v - p - q) := ((hv.neg.sub hp).sub (hq.mono (by omega))).mono (by omega)
  have sz : ∀ (f : Int → Int), Sz (n + 3) (f 0) → Sz (n + 3) (f 1) → Sz (n + 3) (f 2) → Sz (n + 3) (f 3) → Sz (n + 3) (f 4) → Szf (n + 3) f := fun f h0 h1 h2 h3 h4 i i0 i4 => by
    rcases five_of i0 i4 with rfl | rfl | rfl | rfl | rfl <;> assumption
  rcases five_of r0 r4 with rfl | rfl | rfl | rfl | rfl
  · exact ⟨at5 p u (-v - p) (v + q) (-u - q), at5 q v (-u - v - q) (u + v + p + q) (-v - p - q), ⟨by simp [at5], by simp [at5]; omega, by simp [at5]; omega⟩, rfl, rfl, rfl, rfl, sz _ z1 z3 z5 z7 z9, sz _ z2 z4 z6 z8 z0⟩
  · exact ⟨at5 (-u - q) p u (-v - p) (v + q), at5 (-v - p - q) q v (-u - v - q) (u + v + p + q), ⟨by simp [at5]; omega, by simp [at5], by simp [at5]; omega⟩, rfl, rfl, rfl, rfl, sz _ z9 z1 z3 z5 z7, sz _ z0 z2 z4 z6 z8⟩
  · exact ⟨at5 (v + q) (-u - q) p u (-v - p), at5 (u + v + p + q) (-v - p - q) q v (-u - v - q), ⟨by simp [at5]; omega, by simp [at5]; omega, by simp [at5]⟩, rfl, rfl, rfl, rfl, sz _ z7 z9 z1 z3 z5, sz _ z8 z0 z2 z4 z6⟩
  · exact ⟨at5 (-v - p) (v + q) (-u - q) p u, at5 (-u - v - q) (u + v + p + q) (-v - p - q) q v, ⟨by simp [at5]; omega, by simp [at5]; omega, by simp [at5]; omega⟩, rfl, rfl, rfl, rfl, sz _ z5 z7 z9 z1 z3, sz _ z6 z8 z0 z2 z4⟩
  · exact ⟨at5 u (-v - p) (v + q) (-u - q) p, at5 v (-u - v - q) (u + v + p + q) (-v - p - q) q, ⟨by simp [at5]; omega, by simp [at5]; omega, by simp [at5]; omega⟩, rfl, rfl, rfl, rfl, sz _ z3 z5 z7 z9 z1, sz _ z4 z6 z8 z0 z2⟩
/-- keys whose neighbours differ by multiples differ by multiples -/
theorem KR.sub {a b a' b' : Int → Int} (h : KR a b) (h' : KR a' b') : KR (fun i => a' i - a i) (fun i => b' i - b i) := by
  obtain ⟨⟨a2, b2⟩, ⟨a3, b3⟩, ⟨a4, b4⟩⟩ := h
  obtain ⟨⟨a2', b2'⟩, ⟨a3', b3'⟩, ⟨a4', b4'⟩⟩ := h'
  exact ⟨⟨by omega, by omega⟩, ⟨by omega, by omega⟩, ⟨by omega, by omega⟩⟩
end ND

/-! ND46: zip of a tuple and a list -/
namespace ND
open PySem PySem.Spec L2
/-- it goes along the items of l, a list or a tuple, and stands before the i-th -/
def ItS (h : Heap) (it l : Addr) (i : Nat) (zs : Array Value) : Prop := (h.IsListIter it l i ∧ h.IsList l zs) ∨ (h.IsTupleIter it l i ∧ h.IsTuple l zs)
theorem ItS.keep {h h' : Heap} {it l : Addr} {i : Nat} {zs : Array Value} (x : ItS h it l i zs) (k1 : ∀ o, h.get? it = some o → h'.get? it = some o) (k2 : ∀ o, h.get? l = some o → h'.get? l = some o) : ItS h' it l i zs := by
  rcases x with ⟨a, b⟩ | ⟨a, ⟨o, ho, r⟩⟩
  · exact .inl ⟨a.at k1, b.at k2⟩
  · exact .inr ⟨a.at k1, o, k2 o ho, r⟩
section
variable {prog : Program} {w : World} {A : Around} {E : Value → Shared → Prop} {s : Shared}
end
/-! ### zip(a tuple, a list) -/
section
variable {prog : Program} {w : World} {A : Around} {E : Value → Shared → Prop} {s : Shared}
end
section
variable {B : Bs} {X : Cx} {e e2 : Expr} {pos : Pos}
end
end ND

/-! ND47: dict displays of several pairs, the bits of an int -/
namespace ND
open PySem PySem.Spec L2
section
variable {B : Bs} {X : Cx} {pos : Pos} {keys : List (Option Expr)} {vals : List Expr} {fs : List (Key × GE)}
/-! ### x.bit_length() -/
def bitsD : D → (D → Prop) → Prop
  | .int i, Q => Q (.int (Builtin.Int.intBits i : Nat))
  | _, _ => False
@[simp] theorem bitsD_i (i : Int) (Q : D → Prop) : bitsD (.int i) Q = Q (.int (Builtin.Int.intBits i : Nat)) := rfl
theorem ed_bits {a : Expr} {fa : GE} {apos : Pos} (ha : BD B X a fa) (hbase : attributeBase a "bit_length" X.env (eval a X.env) = eval a X.env := by rfl) (hline : (apos.endLine == pos.line) = true := by rfl) : ED B X (.Call (.Attribute a "bit_length" apos) [] [] pos) (gUn bitsD fa) :=
  ⟨pe_imp (pe_bits ha.run hbase hline) fun s H Q ⟨σ, F, Qd, R, q, kf⟩ => ⟨σ, F, _, R, q, fun x qx F1 H1 v g1 d1 r1 => by
    unfold bitsD at qx
    split at qx
    · have e := r1.int
      subst e
      exact ⟨_, rfl, kf _ qx F1 H1 _ g1 d1 (.int _)⟩
    · exact qx.elim⟩⟩
end
/-! ### C(k = v, ..), by name alone -/
section
variable {B : Bs} {X : Cx} {k n m : Nat} {ps ks : List Str} {dfl : List D} {sp : DSp} {R : Er → Prop} {E : XK} {x qual : Str} {st : Stmt} {p pos : Pos} {kws : List Keyword} {fk : GA} {pm : List Nat}
end
end ND

/-! ND48: the rests of corners, told by keys and side -/
namespace ND
open PySem PySem.Spec L2
theorem psg_scale {k : Int} (hk : 1 ≤ k) (a b : Int) : psg (k * a) (k * b) = psg a b := by
  have e1 : 2 * (k * a) + k * b = k * (2 * a + b) := by rw [Int.mul_add, Int.mul_left_comm]
  unfold psg
  rw [e1]
  generalize 2 * a + b = x
  have p0 : ∀ z : Int, (0 ≤ k * z) ↔ 0 ≤ z := fun z => ⟨fun h => by
    by_cases h1 : z < 0
    · have := Int.mul_neg_of_pos_of_neg (show 0 < k by omega) h1
      omega
    · omega, fun h => Int.mul_nonneg (by omega) h⟩
  have p1 : ∀ z : Int, (0 < k * z) ↔ 0 < z := fun z => ⟨fun h => by
    by_cases h1 : 0 < z
    · exact h1
    · have := Int.mul_nonpos_of_nonneg_of_nonpos (show 0 ≤ k by omega) (show z ≤ 0 by omega)
      omega, fun h => Int.mul_pos (by omega) h⟩
  have p2 : ∀ z : Int, (k * z ≤ 0) ↔ z ≤ 0 := fun z => by
    have := p1 z
    omega
  have p3 : (5 * (k * b) * (k * b) < k * x * (k * x)) ↔ 5 * b * b < x * x := by
    have e2 : k * x * (k * x) - 5 * (k * b) * (k * b) = k * (k * (x * x - 5 * b * b)) := by grind
    have h1 := p1 (k * (x * x - 5 * b * b))
    have h2 := p1 (x * x - 5 * b * b)
    generalize 5 * (k * b) * (k * b) = y1 at *
    generalize k * x * (k * x) = y2 at *
    generalize x * x = y3 at *
    generalize 5 * b * b = y4 at *
    omega
  simp only [p0, p1, p2, p3]
def shA (f : Int → Int) (r : Int) : Int := f ((r - 1) % 5) + f ((r + 1) % 5) + f (r % 5)
def shB (f : Int → Int) (r : Int) : Int := -f (r % 5)
/-- the rest of a corner at r, less x + y g, told by its sign; ties by the side -/
def rpA (a : Int → Int) (d : Int) (f : Int → Int) (r x : Int) : Int := shA f r * d - a (r % 5) - x * d
def rpB (b : Int → Int) (d : Int) (f : Int → Int) (r y : Int) : Int := shB f r * d - b (r % 5) - y * d
def rsg (a b : Int → Int) (d : Int) (s : List Int) (f : Int → Int) (r x y : Int) : Int :=
  if psg (rpA a d f r x) (rpB b d f r y) ≠ 0 then psg (rpA a d f r x) (rpB b d f r y) else -at0 s (r % 5)
theorem mod5_in (r : Int) : 0 ≤ r % 5 ∧ r % 5 ≤ 4 := by omega
/-- the bounds of the levels: whether rests lie above, and a + b g -/
def wAb : List Bool := [false, false, true, false, true]
def wBd : List (Int × Int) := [(0, 0), (1, 0), (1, -1), (2, 0), (2, -1)]
def wAbv (l : Int) : Bool := wAb.getD l.toNat false
def wBnd (l : Int) : Int × Int := wBd.getD l.toNat (0, 0)
def withB (a b : Int → Int) (d : Int) (s : List Int) (f : Int → Int) (r : Int) : Bool := decide (0 < rsg a b d s f r (wBnd (sum5 f)).1 (wBnd (sum5 f)).2) == wAbv (sum5 f)
def hasB (a b : Int → Int) (d : Int) (s : List Int) (f : Int → Int) : Bool := decide (1 ≤ sum5 f ∧ sum5 f ≤ 4) && dirs5.all (withB a b d s f)
end ND

/-! ND49: {n: e}, n an integer -/
namespace ND
open PySem PySem.Spec L2
section
variable {B : Bs} {X : Cx} {e a b : Expr} {fa fb : GE} {pos : Pos}
end
/-! ### floors told by a dict -/
end ND

/-! ND50: the order of golden numbers, by Fibonacci's numbers; powers of g -/
namespace ND
open PySem PySem.Spec L2
theorem sqn (b : Int) : 0 ≤ b * b := by
  rcases Int.le_total 0 b with h | h
  · exact Int.mul_nonneg h h
  · exact Int.mul_nonneg_of_nonpos_of_nonpos h h
def fb : Nat → Int
  | 0 => 0
  | 1 => 1
  | n + 2 => fb n + fb (n + 1)
theorem fb_pos : ∀ n, 0 ≤ fb n ∧ 1 ≤ fb (n + 1) ∧ (n : Int) ≤ fb (n + 1) + 1 ∧ fb n ≤ fb (n + 2)
  | 0 => by decide
  | 1 => by decide
  | n + 2 => by
    obtain ⟨h1, h2, h3, h4⟩ := fb_pos n
    obtain ⟨k1, k2, k3, k4⟩ := fb_pos (n + 1)
    have e2 : fb (n + 2) = fb n + fb (n + 1) := rfl
    have e3 : fb (n + 3) = fb (n + 1) + fb (n + 2) := rfl
    have e4 : fb (n + 4) = fb (n + 2) + fb (n + 3) := rfl
    show 0 ≤ fb (n + 2) ∧ 1 ≤ fb (n + 3) ∧ ((n + 2 : Nat) : Int) ≤ fb (n + 3) + 1 ∧ fb (n + 2) ≤ fb (n + 4)
    have k3' : ((n + 1 : Nat) : Int) ≤ fb (n + 2) + 1 := k3
    refine ⟨by omega, by omega, by omega, by omega⟩
/-- Cassini -/
theorem fb_cas : ∀ n, (fb (n + 1) * fb (n + 1) - fb (n + 1) * fb n - fb n * fb n = 1) ∨ (fb (n + 1) * fb (n + 1) - fb (n + 1) * fb n - fb n * fb n = -1)
  | 0 => .inl (by decide)
  | n + 1 => by
    have e2 : fb (n + 2) = fb n + fb (n + 1) := rfl
    have h := fb_cas n
    show (fb (n + 2) * fb (n + 2) - fb (n + 2) * fb (n + 1) - fb (n + 1) * fb (n + 1) = 1) ∨ _ = -1
    rw [e2]
    have k : (fb n + fb (n + 1)) * (fb n + fb (n + 1)) - (fb n + fb (n + 1)) * fb (n + 1) - fb (n + 1) * fb (n + 1) = -(fb (n + 1) * fb (n + 1) - fb (n + 1) * fb n - fb n * fb n) := by grind
    rw [k]
    rcases h with h | h
    · exact .inr (by rw [h])
    · exact .inl (by rw [h]; rfl)
/-- nearly a + b g, times a positive number -/
def ph (n : Nat) (a b : Int) : Int := a * fb n + b * fb (n + 1)
theorem ph_g (n : Nat) (a b : Int) : ph n b (a + b) = ph (n + 1) a b := by
  unfold ph
  have e2 : fb (n + 1 + 1) = fb n + fb (n + 1) := rfl
  rw [e2]
  grind
theorem ph_add (n : Nat) (a b c d : Int) : ph n (a + c) (b + d) = ph n a b + ph n c d := by
  unfold ph
  grind
theorem ph_neg (n : Nat) (a b : Int) : ph n (-a) (-b) = -ph n a b := by
  unfold ph
  grind
/-- from some place on -/
def Ev2 (p : Nat → Prop) : Prop := ∃ N, ∀ n, N ≤ n → p n
theorem Ev2.and {p q : Nat → Prop} : Ev2 p → Ev2 q → Ev2 fun n => p n ∧ q n := fun ⟨N, h⟩ ⟨M, k⟩ => ⟨N + M, fun n hn => ⟨h n (by omega), k n (by omega)⟩⟩
theorem Ev2.imp {p q : Nat → Prop} (f : ∀ n, p n → q n) : Ev2 p → Ev2 q := fun ⟨N, h⟩ => ⟨N, fun n hn => f n (h n hn)⟩
theorem Ev2.nx {p : Nat → Prop} : Ev2 p → Ev2 fun n => p (n + 1) := fun ⟨N, h⟩ => ⟨N, fun n hn => h (n + 1) (by omega)⟩
theorem ev_pos1 {a b : Int} (h : psg a b = 1) : Ev2 fun n => 0 < ph n a b := by
  refine ⟨2 * b.natAbs + 8, fun n hn => ?_⟩
  obtain ⟨m, rfl⟩ : ∃ m, n = m + 1 := ⟨n - 1, by omega⟩
  obtain ⟨f0, f1, f2, _⟩ := fb_pos m
  obtain ⟨g0, g1, g2, _⟩ := fb_pos (m + 1)
  have cas := fb_cas (m + 1)
  unfold ph
  generalize hF : fb (m + 1) = F at *
  generalize hG : fb (m + 1 + 1) = G at *
  have hFG : F ≤ G := by
    have e : fb (m + 1 + 1) = fb m + fb (m + 1) := rfl
    omega
  obtain ⟨L, eL⟩ : ∃ L, L = 2 * G - F := ⟨_, rfl⟩
  have hL : 0 < L := by omega
  have e2 : 2 * (a * F + b * G) = (2 * a + b) * F + b * L := by
    subst eL
    grind
  have eLL : L * L = 5 * (F * F) + 4 * (G * G - G * F - F * F) := by
    subst eL
    grind
  obtain ⟨X, eX⟩ : ∃ X, X = 2 * a + b := ⟨_, rfl⟩
  rw [← eX] at e2
  have hFb : 2 * b.natAbs + 4 ≤ F := by omega
  suffices 0 < X * F + b * L by omega
  have lo : 5 * (F * F) - 4 ≤ L * L := by omega
  have hi : L * L ≤ 5 * (F * F) + 4 := by omega
  clear hG hF cas eLL e2 eL hFG g0 g1 g2 f0 f1 f2
  have hF0 : 0 < F := by omega
  unfold psg at h
  rw [← eX] at h
  have big : 4 * (b * b) < F * F := by
    have h1 : 2 * (b.natAbs : Int) < F := by omega
    have h2 : (2 * (b.natAbs : Int)) * (2 * (b.natAbs : Int)) < F * F := sq_lt (by omega) h1
    have h3 : ((b.natAbs : Int)) * (b.natAbs : Int) = b * b := by
      have := Int.natAbs_mul_self (a := b)
      simpa using this
    have h4 : (2 * (b.natAbs : Int)) * (2 * (b.natAbs : Int)) = 4 * ((b.natAbs : Int) * (b.natAbs : Int)) := by grind
    omega
  split at h
  · rename_i c
    split at h
    · rename_i c2
      rcases c2 with c2 | c2
      · have h1 := Int.mul_pos c2 hF0
        have h2 := Int.mul_nonneg c.2 (Int.le_of_lt hL)
        omega
      · have h1 := Int.mul_nonneg c.1 (Int.le_of_lt hF0)
        have h2 := Int.mul_pos c2 hL
        omega
    · cases h
  · rename_i c
    split at h
    · cases h
    · rename_i c2
      split at h
      · rename_i c3
        split at h
        · rename_i c4
          -- X > 0, b < 0, 5 b b < X X : X F > -b L
          have hb : b < 0 := by omega
          have h1 : (-b * L) * (-b * L) < (X * F) * (X * F) := by
            have k1 : (-b * L) * (-b * L) = b * b * (L * L) := by grind
            have k2 : (X * F) * (X * F) = X * X * (F * F) := by grind
            have k3 : (5 * b * b + 1) * (F * F) ≤ X * X * (F * F) := Int.mul_le_mul_of_nonneg_right (by omega) (Int.mul_nonneg (by omega) (by omega))
            have k4 : b * b * (L * L) ≤ b * b * (5 * (F * F) + 4) := Int.mul_le_mul_of_nonneg_left hi (sqn b)
            have k5 : (5 * b * b + 1) * (F * F) = b * b * (5 * (F * F) + 4) + (F * F - 4 * (b * b)) := by grind
            omega
          have h2 : -b * L < X * F := by
            rcases Int.lt_or_le (-b * L) (X * F) with z | z
            · exact z
            · have := sq_le (Int.mul_nonneg (Int.le_of_lt c3) (Int.le_of_lt hF0)) z
              omega
          have h3 : -b * L = -(b * L) := by grind
          omega
        · cases h
      · rename_i c3
        split at h
        · cases h
        · rename_i c4
          -- X ≤ 0, b > 0, X X ≤ 5 b b
          have hb : 0 < b := by omega
          have ne : X * X ≠ 5 * b * b := no_tie (by omega)
          have h1 : (-X * F) * (-X * F) < (b * L) * (b * L) := by
            have k1 : (-X * F) * (-X * F) = X * X * (F * F) := by grind
            have k2 : (b * L) * (b * L) = b * b * (L * L) := by grind
            have k3 : (X * X + 1) * (F * F) ≤ 5 * b * b * (F * F) := Int.mul_le_mul_of_nonneg_right (by omega) (Int.mul_nonneg (by omega) (by omega))
            have k4 : b * b * (5 * (F * F) - 4) ≤ b * b * (L * L) := Int.mul_le_mul_of_nonneg_left lo (sqn b)
            have k5 : b * b * (5 * (F * F) - 4) = 5 * b * b * (F * F) - 4 * (b * b) := by grind
            have k6 : (X * X + 1) * (F * F) = X * X * (F * F) + F * F := by grind
            omega
          have h2 : -X * F < b * L := by
            rcases Int.lt_or_le (-X * F) (b * L) with z | z
            · exact z
            · have := sq_le (Int.mul_nonneg (Int.le_of_lt hb) (Int.le_of_lt hL)) z
              omega
          have h3 : -X * F = -(X * F) := by grind
          omega
theorem psg_tri (a b : Int) : psg a b = 1 ∨ psg a b = 0 ∨ psg a b = -1 := by
  unfold psg
  repeat' split
  all_goals simp
theorem psg_zero {a b : Int} (h : psg a b = 0) : a = 0 ∧ b = 0 := by
  unfold psg at h
  repeat' split at h
  all_goals first | (exfalso; revert h; decide) | omega
/-- what is above zero -/
theorem pos_iff {a b : Int} : psg a b = 1 ↔ Ev2 fun n => 0 < ph n a b := by
  refine ⟨ev_pos1, fun h => ?_⟩
  rcases psg_tri a b with e | e | e
  · exact e
  · obtain ⟨rfl, rfl⟩ := psg_zero e
    obtain ⟨N, hN⟩ := h
    have := hN N (Nat.le_refl _)
    simp [ph] at this
  · have k : psg (-a) (-b) = 1 := by rw [psg_neg, e]; rfl
    obtain ⟨N, hN⟩ := h.and (ev_pos1 k)
    obtain ⟨h1, h2⟩ := hN N (Nat.le_refl _)
    rw [ph_neg] at h2
    omega
theorem psg_pos {a b : Int} : 0 < psg a b ↔ psg a b = 1 := by
  rcases psg_tri a b with e | e | e <;> omega
theorem psg_nn {a b : Int} : 0 ≤ psg a b ↔ psg a b = 1 ∨ (a = 0 ∧ b = 0) := by
  rcases psg_tri a b with e | e | e
  · omega
  · have := psg_zero e
    exact ⟨fun _ => .inr this, fun _ => by omega⟩
  · refine ⟨fun h => by omega, fun h => ?_⟩
    rcases h with h | ⟨rfl, rfl⟩
    · omega
    · revert e; decide
theorem psg_np {a b : Int} : psg a b < 0 ↔ psg (-a) (-b) = 1 := by
  rw [psg_neg]
  rcases psg_tri a b with e | e | e <;> omega
theorem pos_g {a b : Int} : psg b (a + b) = 1 ↔ psg a b = 1 := by
  rw [pos_iff, pos_iff]
  constructor
  · rintro ⟨N, h⟩
    refine ⟨N + 1, fun n hn => ?_⟩
    obtain ⟨m, rfl⟩ : ∃ m, n = m + 1 := ⟨n - 1, by omega⟩
    rw [← ph_g]
    exact h m (by omega)
  · rintro ⟨N, h⟩
    refine ⟨N, fun n hn => ?_⟩
    show 0 < ph n b (a + b)
    rw [ph_g]
    exact h (n + 1) (by omega)
theorem pos_add {a b c d : Int} (h : psg a b = 1) (k : psg c d = 1) : psg (a + c) (b + d) = 1 :=
  pos_iff.mpr (((ev_pos1 h).and (ev_pos1 k)).imp fun n ⟨x, y⟩ => by rw [ph_add]; omega)
theorem flr_uniq {a b m k : Int} (hm : 1 ≤ m) (h1 : 0 ≤ psg (a - k * m) b) (h2 : psg (a - (k + 1) * m) b < 0) : flr a b m = k := by
  obtain ⟨g1, g2⟩ := flr_ok (a := a) (b := b) hm
  generalize flr a b m = f at *
  have key : ∀ {x y : Int}, 0 ≤ psg (a - x * m) b → psg (a - y * m) b < 0 → x < y := fun {x y} p q => by
    rcases Int.lt_or_le x y with z | z
    · exact z
    · exfalso
      rw [psg_np] at q
      have le : y * m ≤ x * m := Int.mul_le_mul_of_nonneg_right z (by omega)
      rcases psg_nn.mp p with p | ⟨p1, p2⟩
      · obtain ⟨N, hN⟩ := (ev_pos1 p).and (ev_pos1 q)
        obtain ⟨h3, h4⟩ := hN (N + 1) (by omega)
        have h5 := ph_add (N + 1) (a - x * m) b (-(a - y * m)) (-b)
        have e1 : a - x * m + -(a - y * m) = -(x * m - y * m) := by omega
        have e2 : b + -b = 0 := by omega
        rw [e1, e2] at h5
        have h6 : 0 ≤ (x * m - y * m) * fb (N + 1) := Int.mul_nonneg (by omega) (fb_pos (N + 1)).1
        have h7 : ph (N + 1) (-(x * m - y * m)) 0 = -((x * m - y * m) * fb (N + 1)) := by
          unfold ph
          rw [Int.zero_mul, Int.add_zero, Int.neg_mul]
        omega
      · obtain ⟨N, hN⟩ := ev_pos1 q
        have h3 := hN (N + 1) (by omega)
        subst p2
        have h6 : 0 ≤ -(-(a - y * m)) * fb (N + 1) := Int.mul_nonneg (by omega) (fb_pos (N + 1)).1
        unfold ph at h3
        rw [Int.neg_mul] at h6
        simp only [Int.neg_zero, Int.zero_mul, Int.add_zero] at h3
        omega
  have k1 := key g1 h2
  have k2 := key h1 g2
  omega
/-! ### powers of g -/
def tg (p : Int × Int) : Int × Int := (p.2, p.1 + p.2)
def tl (p : Int × Int) : Int × Int := (p.2 - p.1, p.1)
def pwU : Nat → Int × Int
  | 0 => (1, 0)
  | n + 1 => tg (pwU n)
def pwD : Nat → Int × Int
  | 0 => (1, 0)
  | n + 1 => tl (pwD n)
def pw (n : Int) : Int × Int := if 0 < n then pwU n.toNat else pwD (-n).toNat
end ND

/-! ND51: d["k"] -/
namespace ND
open PySem PySem.Spec L2
def valD (kvs : List (Key × D)) (k : Key) : Option D := (kvs.find? fun kv => decide (kv.1 = k)).map (·.2)
theorem RepKs.val {K : Kn} {F : Hp} {k : Key} {x : D} : ∀ {vs : List (Key × V)} {ds : List (Key × D)}, RepKs K F vs ds → valD ds k = some x → ∃ v, valV vs k = some v ∧ Rep K F v x
  | _, _, .nil, e => by cases e
  | _, _, .cons (k := k') (v := v) (d := d) r t, e => by
    unfold valD at e
    unfold valV
    by_cases h : k' = k
    · rw [List.find?_cons_of_pos (by simpa using h)] at e ⊢
      cases e
      exact ⟨v, rfl, r⟩
    · rw [List.find?_cons_of_neg (by simpa using h)] at e ⊢
      exact RepKs.val t e
section
variable {B : Bs} {X : Cx} {a : Expr} {fa : GE} {pos : Pos}
end
section
variable {a b : Int → Int} {d : Int} {s : List Int} {ta tb : Int → Int} {Q : D → Prop}
end
end ND

/-! ND52: != by one's own __eq__ -/
namespace ND
open PySem PySem.Spec L2
open PyProof.Rows (envOfC)
section
variable {X : Cx} {CX : CXT} {k : Nat} {f C : Addr} {fd : FuncData} {ps : List Str} {sp : Sp} {dvs : List V} {ds : List Value} {E : XK}
end
section
open PySem.W
variable {K : PySem.W.Frag} {x ox : Addr}
end
section
variable {B : Bs} {X : Cx} {known : Str → Bool} {k : Nat}
end
end ND

/-! ND53: str(x) by one's own __str__ -/
namespace ND
open PySem PySem.Spec L2
open PyProof.Rows (envOfC)
section
variable {X : Cx} {CX : CXT} {k : Nat} {f C : Addr} {fd : FuncData} {ps : List Str} {sp : Sp} {dvs : List V} {ds : List Value} {E : XK}
end
section
open PySem.W Builtin Builtin.Str
variable {K : PySem.W.Frag}
end
section
variable {B : Bs} {X : Cx} {known : Str → Bool} {k : Nat}
end
section
variable {P : Program} {w : World} {K : PySem.W.Frag} {mg : Str → Option Value} {base : Heap} {T : List (Addr × Str)} {k : Nat} {n qual : Str} {sp : DSp} {C f : Addr} {st : Stmt} {fd : FuncData}
end
/-! ### text.join(list) -/
section
variable {B : Bs} {X : Cx} {a b : Expr} {fa fb : GE} {pos apos : Pos}
end
end ND

/-! ND54: roots, floors, heights, crossings (what the laws work out) -/
namespace ND
open PySem PySem.Spec L2
/-- s is the root of n -/
def Root (n s : Int) : Prop := 0 ≤ s ∧ s * s ≤ n ∧ n < (s + 1) * (s + 1)
theorem Root.uniq {n s t : Int} (h : Root n s) (k : Root n t) : s = t := by
  obtain ⟨h0, h1, h2⟩ := h
  obtain ⟨k0, k1, k2⟩ := k
  rcases Int.lt_trichotomy s t with z | z | z
  · have := sq_le (x := s + 1) (y := t) (by omega) (by omega)
    omega
  · exact z
  · have := sq_le (x := t + 1) (y := s) (by omega) (by omega)
    omega
theorem root_isqrt (b : Int) : Root (5 * b * b) ((Float64.isqrt (5 * b * b).toNat : Nat) : Int) := by
  obtain ⟨r, e, h⟩ := root5 b
  rw [e]
  exact h
theorem newton {n x s : Int} (h : Root n s) (hx : s ≤ x) (x1 : 1 ≤ x) : s ≤ (x + n / x) / 2 ∧ (x ≤ (x + n / x) / 2 → x = s) ∧ ((x + n / x) / 2 < x → (x + n / x) / 2 - s ≤ (x - s) / 2 ∧ 1 ≤ (x + n / x) / 2 + (if s = 0 then 1 else 0)) := by
  obtain ⟨h0, h1, h2⟩ := h
  have q1 := Int.mul_ediv_add_emod n x
  have q2 := Int.emod_nonneg n (show x ≠ 0 by omega)
  have q3 := Int.emod_lt_of_pos n (show 0 < x by omega)
  generalize n % x = m at *
  generalize n / x = k at *
  have k0 : s ≤ (x + k) / 2 := by
    rcases Int.lt_or_le (x + k) (2 * s) with z | z
    · exfalso
      have e1 : x * (k + 1) ≤ x * (2 * s - x) := Int.mul_le_mul_of_nonneg_left (by omega) (by omega)
      have e2 : x * (2 * s - x) = s * s - (s - x) * (s - x) := by grind
      have e3 := sqn (s - x)
      have e4 : x * (k + 1) = x * k + x := by grind
      omega
    · omega
  have k1 : s + 1 ≤ x → k ≤ s := fun hx1 => by
    rcases Int.lt_or_le s k with z | z
    · exfalso
      have e1 : (s + 1) * (s + 1) ≤ x * k := Int.mul_le_mul hx1 z (by omega) (by omega)
      omega
    · exact z
  refine ⟨k0, fun z => ?_, fun z => ?_⟩
  · rcases Int.lt_or_le s x with w | w
    · have := k1 w
      omega
    · omega
  · have : s + 1 ≤ x := by omega
    have := k1 this
    constructor
    · omega
    · split <;> omega
theorem root_le {b r : Int} (h : Root (5 * b * b) r) : r ≤ 3 * (b.natAbs : Int) := by
  obtain ⟨h0, h1, h2⟩ := h
  rcases Int.lt_or_le (3 * (b.natAbs : Int)) r with z | z
  · exfalso
    have e1 := sq_lt (x := 3 * (b.natAbs : Int)) (y := r) (by omega) z
    have e2 : (b.natAbs : Int) * (b.natAbs : Int) = b * b := by
      have := Int.natAbs_mul_self (a := b)
      simpa using this
    have e3 : 3 * (b.natAbs : Int) * (3 * (b.natAbs : Int)) = 9 * ((b.natAbs : Int) * (b.natAbs : Int)) := by grind
    have e4 : 5 * b * b = 5 * (b * b) := by grind
    have e5 := sqn b
    omega
  · exact z
theorem flr_bound {n : Nat} {a b d : Int} (ha : Sz n a) (hb : Sz n b) (hd : 1 ≤ d) : Sz (n + 4) (flr a b d) := by
  have h := root_isqrt b
  have hr := root_le h
  have h0 := h.1
  unfold flr
  generalize ((Float64.isqrt (5 * b * b).toNat : Nat) : Int) = r at *
  have ha1 : a.natAbs < 2 ^ n := ha
  have hb1 : b.natAbs < 2 ^ n := hb
  have e : (2 : Nat) ^ (n + 4) = 16 * 2 ^ n := by rw [Nat.pow_add]; omega
  have key : ∀ z : Int, z.natAbs ≤ 8 * 2 ^ n → Sz (n + 4) (z / (2 * d)) := fun z hz => by
    show (z / (2 * d)).natAbs < 2 ^ (n + 4)
    rw [e]
    have q1 := Int.mul_ediv_add_emod z (2 * d)
    have q2 := Int.emod_nonneg z (show 2 * d ≠ 0 by omega)
    have q3 := Int.emod_lt_of_pos z (show 0 < 2 * d by omega)
    generalize z / (2 * d) = k at *
    rcases Int.lt_or_le k 0 with w | w
    · have := Int.mul_le_mul_of_nonneg_left (show k + 1 ≤ 0 by omega) (show 0 ≤ 2 * d by omega)
      have e2 : 2 * d * (k + 1) = 2 * d * k + 2 * d := by grind
      have h3 := Int.mul_le_mul_of_nonpos_right (show 2 ≤ 2 * d by omega) (show k + 1 ≤ 0 by omega)
      generalize (2 : Nat) ^ n = p at *
      omega
    · have h3 := Int.mul_le_mul_of_nonneg_right (show 2 ≤ 2 * d by omega) w
      generalize (2 : Nat) ^ n = p at *
      omega
  split
  · refine key _ ?_
    generalize (2 : Nat) ^ n = p at *
    omega
  · refine key _ ?_
    generalize (2 : Nat) ^ n = p at *
    omega
/-! ### heights -/
structure HR (a b : Int → Int) : Prop where
  k0 : a 2 = b 1 - a 1 - a 0 ∧ b 2 = a 1 - b 0
  k1 : a 3 = b 2 - a 2 - a 1 ∧ b 3 = a 2 - b 1
  k2 : a 4 = b 3 - a 3 - a 2 ∧ b 4 = a 3 - b 2
theorem HR.k3 {a b : Int → Int} (h : HR a b) : a 0 = b 4 - a 4 - a 3 ∧ b 0 = a 4 - b 3 := by
  obtain ⟨⟨a2, b2⟩, ⟨a3, b3⟩, ⟨a4, b4⟩⟩ := h
  omega
theorem HR.k4 {a b : Int → Int} (h : HR a b) : a 1 = b 0 - a 0 - a 4 ∧ b 1 = a 0 - b 4 := by
  obtain ⟨⟨a2, b2⟩, ⟨a3, b3⟩, ⟨a4, b4⟩⟩ := h
  omega
/-- heights of which two beside one another are given -/
theorem heights_ex {n : Nat} {r p q u v : Int} (r0 : 0 ≤ r) (r4 : r ≤ 4) (hp : Sz n p) (hq : Sz n q) (hu : Sz n u) (hv : Sz n v) : ∃ a b, HR a b ∧ a r = p ∧ b r = q ∧ a ((r + 1) % 5) = u ∧ b ((r + 1) % 5) = v ∧ Szf (n + 3) a ∧ Szf (n + 3) b := by
  have z1 : Sz (n + 3) p := hp.mono (by omega)
  have z2 : Sz (n + 3) q := hq.mono (by omega)
  have z3 : Sz (n + 3) u := hu.mono (by omega)
  have z4 : Sz (n + 3) v := hv.mono (by omega)
  have z5 : Sz (n + 3) (v - u - p) := ((hv.sub hu).sub (hp.mono (by omega))).mono (by omega)
  have z6 : Sz (n + 3) (u - q) := (hu.sub hq).mono (by omega)
  have z7 : Sz (n + 3) (p - q + (u - v)) := ((hp.sub hq).add (hu.sub hv)).mono (by omega)
  have z8 : Sz (n + 3) (-p - u) := ((hp.neg).sub hu).mono (by omega)
  have z9 : Sz (n + 3) (q - p - u) := ((hq.sub hp).sub (hu.mono (by omega))).mono (by omega)
  have z0 : Sz (n + 3) (p - v) := (hp.sub hv).mono (by omega)
  have sz : ∀ (f : Int → Int), Sz (n + 3) (f 0) → Sz (n + 3) (f 1) → Sz (n + 3) (f 2) → Sz (n + 3) (f 3) → Sz (n + 3) (f 4) → Szf (n + 3) f := fun f h0 h1 h2 h3 h4 i i0 i4 => by
    rcases five_of i0 i4 with rfl | rfl | rfl | rfl | rfl <;> assumption
  rcases five_of r0 r4 with rfl | rfl | rfl | rfl | rfl
  · exact ⟨at5 p u (v - u - p) (p - q + (u - v)) (q - p - u), at5 q v (u - q) (-p - u) (p - v), ⟨by simp [at5] <;> omega, by simp [at5] <;> omega, by simp [at5] <;> omega⟩, rfl, rfl, rfl, rfl, sz _ z1 z3 z5 z7 z9, sz _ z2 z4 z6 z8 z0⟩
  · exact ⟨at5 (q - p - u) p u (v - u - p) (p - q + (u - v)), at5 (p - v) q v (u - q) (-p - u), ⟨by simp [at5] <;> omega, by simp [at5] <;> omega, by simp [at5] <;> omega⟩, rfl, rfl, rfl, rfl, sz _ z9 z1 z3 z5 z7, sz _ z0 z2 z4 z6 z8⟩
  · exact ⟨at5 (p - q + (u - v)) (q - p - u) p u (v - u - p), at5 (-p - u) (p - v) q v (u - q), ⟨by simp [at5] <;> omega, by simp [at5] <;> omega, by simp [at5] <;> omega⟩, rfl, rfl, rfl, rfl, sz _ z7 z9 z1 z3 z5, sz _ z8 z0 z2 z4 z6⟩
  · exact ⟨at5 (v - u - p) (p - q + (u - v)) (q - p - u) p u, at5 (u - q) (-p - u) (p - v) q v, ⟨by simp [at5] <;> omega, by simp [at5] <;> omega, by simp [at5] <;> omega⟩, rfl, rfl, rfl, rfl, sz _ z5 z7 z9 z1 z3, sz _ z6 z8 z0 z2 z4⟩
  · exact ⟨at5 u (v - u - p) (p - q + (u - v)) (q - p - u) p, at5 v (u - q) (-p - u) (p - v) q, ⟨by simp [at5] <;> omega, by simp [at5] <;> omega, by simp [at5] <;> omega⟩, rfl, rfl, rfl, rfl, sz _ z3 z5 z7 z9 z1, sz _ z4 z6 z8 z0 z2⟩
/-- heights that are zero at two of them beside one another are zero -/
theorem HR.zero {a b : Int → Int} (h : HR a b) (e0 : a 0 = 0) (f0 : b 0 = 0) (e1 : a 1 = 0) (f1 : b 1 = 0) : ∀ i, 0 ≤ i → i ≤ 4 → a i = 0 ∧ b i = 0 := by
  obtain ⟨⟨a2, b2⟩, ⟨a3, b3⟩, ⟨a4, b4⟩⟩ := h
  intro i i0 i4
  rcases five_of i0 i4 with rfl | rfl | rfl | rfl | rfl <;> omega
end ND

/-! ND55: x, y = a list -/
namespace ND
open PySem PySem.Spec L2
section
variable {B : Bs} {X : Cx} {e : Expr} {fa : GE} {pos : Pos}
end
end ND

/-! ND56: the home of a floor, and its tile -/
namespace ND
open PySem PySem.Spec L2
/-- not below zero -/
def Nn (a b : Int) : Prop := psg a b = 1 ∨ (a = 0 ∧ b = 0)
theorem Nn.add {a b c d : Int} (h : Nn a b) (k : Nn c d) : Nn (a + c) (b + d) := by
  rcases h with h | ⟨rfl, rfl⟩
  · rcases k with k | ⟨rfl, rfl⟩
    · exact .inl (pos_add h k)
    · rw [Int.add_zero, Int.add_zero]
      exact .inl h
  · rw [Int.zero_add, Int.zero_add]
    exact k
theorem pos_nn {a b c d : Int} (h : psg a b = 1) (k : Nn c d) : psg (a + c) (b + d) = 1 := by
  rcases k with k | ⟨rfl, rfl⟩
  · exact pos_add h k
  · rw [Int.add_zero, Int.add_zero]
    exact h
theorem Nn.zero {a b c d : Int} (h : Nn a b) (k : Nn c d) (e1 : a + c = 0) (e2 : b + d = 0) : (a = 0 ∧ b = 0) ∧ c = 0 ∧ d = 0 := by
  rcases h with h | ⟨rfl, rfl⟩
  · have := pos_nn h k
    rw [e1, e2] at this
    exact absurd this (by decide)
  · exact ⟨⟨rfl, rfl⟩, by omega, by omega⟩
/-- times g, times g - 1 -/
theorem Nn.g {a b : Int} (h : Nn a b) : Nn b (a + b) := by
  rcases h with h | ⟨rfl, rfl⟩
  · exact .inl (pos_g.mpr h)
  · exact .inr ⟨rfl, rfl⟩
theorem pos_l {a b : Int} (h : psg a b = 1) : psg (b - a) a = 1 := by
  refine pos_g.mp ?_
  rw [show b - a + a = b by omega]
  exact h
theorem Nn.l {a b : Int} (h : Nn a b) : Nn (b - a) a := by
  rcases h with h | ⟨rfl, rfl⟩
  · exact .inl (pos_l h)
  · exact .inr ⟨rfl, rfl⟩
theorem pos_d {d : Int} (h : 1 ≤ d) (a b : Int) (e : psg a b = 1) : psg (d * a) (d * b) = 1 := by
  rw [psg_scale h]
  exact e
/-- as the program finds it -/
theorem flr_cong {u v w p q d : Int} (hw : 1 ≤ w) (hd : 1 ≤ d) (e1 : u * d = p * w) (e2 : v * d = q * w) : flr u v w = flr p q d := by
  obtain ⟨h1, h2⟩ := flr_ok (a := p) (b := q) hd
  have sc : ∀ k : Int, psg (u - k * w) v = psg (p - k * d) q := fun k => by
    rw [← psg_scale hd, ← psg_scale hw (p - k * d)]
    congr 1
    · have : d * (u - k * w) = u * d - k * w * d := by grind
      rw [this, e1]
      grind
    · rw [Int.mul_comm d v, e2, Int.mul_comm]
  refine flr_uniq hw ?_ ?_
  · rw [sc]
    exact h1
  · rw [sc]
    exact h2
end ND

/-! ND57: the tile of the lines (0, 0) and (1, 0) stands -/
namespace ND
open PySem PySem.Spec L2
theorem side_at' : ∀ wl ∈ WL, ∀ s ∈ sidesL wl, ∀ r ∈ wl, at0 s r = 1 ∨ at0 s r = -1 := by decide +kernel
end ND

/-! ND58: what can be shown of numbers, keys and sides; the home's tile as a law works it out -/
namespace ND
open PySem PySem.Spec L2
theorem pok_tri {m : Nat} {a b c : Int} (h1 : Sz m a) (h2 : Sz m b) (h3 : Sz m c) : Pok 1 m 14000 (tri a b c) :=
  (pok_tup (n := 0) (m := m) (xs := [.int a, .int b, .int c]) rfl (by simp [sms, sm]; exact ⟨h1, h2, h3⟩)).up (by decide) (Nat.le_refl _) (by simp [rszs, rsz])
theorem rok_tup {ys : List D} (h : ∀ y ∈ ys, Pok 1 13000 14000 y) (hl : ys.length ≤ 1000) : Rok (.tup ys) := by
  refine Pok.rok (pok_of h).1 (by decide) (by decide) ?_ rfl
  have := Nat.mul_le_mul_left 14002 hl
  show 14002 * ys.length + 3 ≤ 16000000
  omega
theorem Num.pok {n : Nat} {a b d : Int} (h : Num n a b d) (e : n ≤ 13000) : Pok 1 13000 14000 (tri a b d) := pok_tri (h.1.mono e) (h.2.1.mono e) (h.2.2.1.mono e)
theorem int_pok {n : Nat} {a : Int} (h : Sz n a) (e : n ≤ 13000) : Pok 1 13000 14000 (.int a) := (pok_int (h.mono e)).up (by decide) (Nat.le_refl _) (by decide)
theorem in2 {P : D → Prop} {x y : D} (hx : P x) (hy : P y) : ∀ z ∈ [x, y], P z := fun z hz => by
  simp only [List.mem_cons, List.not_mem_nil, or_false] at hz
  rcases hz with rfl | rfl <;> assumption
theorem red_pok {a b d : Int} (h1 : Sz 13000 a) (h2 : Sz 13000 b) (h3 : Sz 13000 d) (h : 1 ≤ d) : Pok 1 13000 14000 (red a b d) := by
  obtain ⟨x, y, z, e, hn⟩ := red_num h1 h2 h3 (by omega)
  rw [e]
  exact Num.pok hn (Nat.le_refl _)
theorem fdiv_one {n : Nat} {x m : Int} (h : Sz n x) (h1 : 1 ≤ m) : Sz (n + 1) (x / m) := by
  have h0 : x.natAbs < 2 ^ n := h
  show (x / m).natAbs < 2 ^ (n + 1)
  rw [Nat.pow_succ]
  have e1 := Int.mul_ediv_add_emod x m
  have e2 := Int.emod_nonneg x (show m ≠ 0 by omega)
  have e3 := Int.emod_lt_of_pos x (show 0 < m by omega)
  generalize (2 : Nat) ^ n = p at *
  rcases Int.lt_or_le (x / m) 0 with z | z
  · have e4 := Int.mul_le_mul_of_nonpos_right h1 (show x / m + 1 ≤ 0 by omega)
    have e5 : m * (x / m + 1) = m * (x / m) + m := by grind
    generalize x / m = k at *
    omega
  · have e4 := Int.mul_le_mul_of_nonneg_right h1 z
    generalize x / m = k at *
    omega
end ND

/-! ND59: the five rests about a row; windows; a low tile stands where its four corners do -/
namespace ND
open PySem PySem.Spec L2
/-- A + B g above zero; a tie by the sign z -/
def Up (A B z : Int) : Prop := Nn A B ∧ (A = 0 → B = 0 → z = -1)
def Dn (A B z : Int) : Prop := Nn (-A) (-B) ∧ (A = 0 → B = 0 → z = 1)
theorem Up.to {A B z A' B' : Int} (h : Up A B z) (e1 : A = A') (e2 : B = B') : Up A' B' z := e1 ▸ e2 ▸ h
theorem Dn.to {A B z A' B' : Int} (h : Dn A B z) (e1 : A = A') (e2 : B = B') : Dn A' B' z := e1 ▸ e2 ▸ h
theorem Up.of {A B z A' B' : Int} (h : Nn A' B') (e1 : A = A') (e2 : B = B') (t : A = 0 → B = 0 → z = -1) : Up A B z := ⟨e1 ▸ e2 ▸ h, t⟩
theorem Dn.of {A B z A' B' : Int} (h : Nn A' B') (e1 : -A = A') (e2 : -B = B') (t : A = 0 → B = 0 → z = 1) : Dn A B z := ⟨e1 ▸ e2 ▸ h, t⟩
theorem Up.pos {A B z A' B' : Int} (h : psg A' B' = 1) (e1 : A = A') (e2 : B = B') : Up A B z := Up.of (.inl h) e1 e2 fun x y => by
  rw [← e1, ← e2, x, y] at h
  exact absurd h (by decide)
theorem Dn.pos {A B z A' B' : Int} (h : psg A' B' = 1) (e1 : -A = A') (e2 : -B = B') : Dn A B z := Dn.of (.inl h) e1 e2 fun x y => by
  rw [← e1, ← e2, x, y] at h
  exact absurd h (by decide)
theorem Nn.z2 {a b c d A B : Int} (h : Nn a b) (k : Nn c d) (e1 : a + c = A) (e2 : b + d = B) (z : A = 0) (w : B = 0) : a = 0 ∧ b = 0 ∧ c = 0 ∧ d = 0 := by
  obtain ⟨⟨x, y⟩, u, v⟩ := Nn.zero h k (by omega) (by omega)
  exact ⟨x, y, u, v⟩
theorem up_dn {A B z : Int} (h : Up A B z) (k : Dn A B z) : False := by
  have := Nn.zero h.1 k.1 (by omega) (by omega)
  have a := h.2 this.1.1 this.1.2
  have b := k.2 this.1.1 this.1.2
  omega
/-- the signs that sides can have -/
def TT (a b c d e : Int) : Prop := (b = 0 ∧ c = 0 ∧ d = 0 ∧ e = 0) ∨ (a = 0 ∧ c = 0 ∧ d = 0 ∧ e = 0) ∨ (a = 0 ∧ b = 0 ∧ d = 0 ∧ e = 0) ∨ (a = 0 ∧ b = 0 ∧ c = 0 ∧ e = 0) ∨ (a = 0 ∧ b = 0 ∧ c = 0 ∧ d = 0) ∨
  (a = 1 ∧ b = -1 ∧ c = 1 ∧ d = 1 ∧ e = -1) ∨ (a = -1 ∧ b = 1 ∧ c = -1 ∧ d = 1 ∧ e = 1) ∨ (a = 1 ∧ b = -1 ∧ c = 1 ∧ d = -1 ∧ e = 1) ∨ (a = 1 ∧ b = 1 ∧ c = -1 ∧ d = 1 ∧ e = -1) ∨ (a = -1 ∧ b = 1 ∧ c = 1 ∧ d = -1 ∧ e = 1) ∨
  (a = -1 ∧ b = 1 ∧ c = -1 ∧ d = -1 ∧ e = 1) ∨ (a = 1 ∧ b = -1 ∧ c = 1 ∧ d = -1 ∧ e = -1) ∨ (a = -1 ∧ b = 1 ∧ c = -1 ∧ d = 1 ∧ e = -1) ∨ (a = -1 ∧ b = -1 ∧ c = 1 ∧ d = -1 ∧ e = 1) ∨ (a = 1 ∧ b = -1 ∧ c = -1 ∧ d = 1 ∧ e = -1)
set_option synthInstance.maxHeartbeats 400000 in
set_option synthInstance.maxSize 4000 in
instance (a b c d e : Int) : Decidable (TT a b c d e) := by
  unfold TT
  infer_instance
theorem tt_all : ∀ wl ∈ WL, ∀ s ∈ sidesL wl, TT (at0 s 0) (at0 s 1) (at0 s 2) (at0 s 3) (at0 s 4) := by decide +kernel
theorem TT.rot {a b c d e : Int} (h : TT a b c d e) : TT b c d e a := by
  rcases h with ⟨rfl, rfl, rfl, rfl⟩ | ⟨rfl, rfl, rfl, rfl⟩ | ⟨rfl, rfl, rfl, rfl⟩ | ⟨rfl, rfl, rfl, rfl⟩ | ⟨rfl, rfl, rfl, rfl⟩ | ⟨rfl, rfl, rfl, rfl, rfl⟩ | ⟨rfl, rfl, rfl, rfl, rfl⟩ | ⟨rfl, rfl, rfl, rfl, rfl⟩ | ⟨rfl, rfl, rfl, rfl, rfl⟩ | ⟨rfl, rfl, rfl, rfl, rfl⟩ | ⟨rfl, rfl, rfl, rfl, rfl⟩ | ⟨rfl, rfl, rfl, rfl, rfl⟩ | ⟨rfl, rfl, rfl, rfl, rfl⟩ | ⟨rfl, rfl, rfl, rfl, rfl⟩ | ⟨rfl, rfl, rfl, rfl, rfl⟩ <;> simp [TT]
theorem TT.adj {a b c d e z : Int} (h : TT a b c d e) (hz : z = 1 ∨ z = -1) (ha : a = z) (hb : b = z) : c = -z ∧ d = z ∧ e = -z := by
  rcases h with h | h | h | h | h | h | h | h | h | h | h | h | h | h | h <;> omega
theorem TT.gap {a b c d e z : Int} (h : TT a b c d e) (hz : z = 1 ∨ z = -1) (ha : a = z) (hb : c = z) : b = -z := by
  rcases h with h | h | h | h | h | h | h | h | h | h | h | h | h | h | h <;> omega
theorem TT.n1 {a b c d e : Int} (h : TT a b c d e) (hd : d = 1) (hb : b = -1) : a = 1 := by
  rcases h with h | h | h | h | h | h | h | h | h | h | h | h | h | h | h <;> omega
theorem TT.n2 {a b c d e : Int} (h : TT a b c d e) (hd : d = 1) (ha : a = -1) : b = 1 := by
  rcases h with h | h | h | h | h | h | h | h | h | h | h | h | h | h | h <;> omega
/-- the five rests P + Q g over d about a row with the sum m / d -/
structure Cf (P Q S : Int → Int) (d m : Int) : Prop where
  pd : psg d 0 = 1
  e0 : P 0 + Q 1 + P 2 = m ∧ Q 0 + (P 1 + Q 1) + Q 2 = 0
  e1 : P 1 + Q 2 + P 3 = m ∧ Q 1 + (P 2 + Q 2) + Q 3 = 0
  e2 : P 2 + Q 3 + P 4 = m ∧ Q 2 + (P 3 + Q 3) + Q 4 = 0
  e3 : P 3 + Q 4 + P 0 = m ∧ Q 3 + (P 4 + Q 4) + Q 0 = 0
  e4 : P 4 + Q 0 + P 1 = m ∧ Q 4 + (P 0 + Q 0) + Q 1 = 0
  tt : TT (S 0) (S 1) (S 2) (S 3) (S 4)
abbrev rt5 (r : Int) (F : Int → Int) : Int → Int := fun i => F ((i + r) % 5)
theorem Cf.rot {P Q S : Int → Int} {d m r : Int} (h : Cf P Q S d m) (r0 : 0 ≤ r) (r4 : r ≤ 4) : Cf (rt5 r P) (rt5 r Q) (rt5 r S) d m := by
  obtain ⟨pd, e0, e1, e2, e3, e4, tt⟩ := h
  rcases five_of r0 r4 with rfl | rfl | rfl | rfl | rfl
  · exact ⟨pd, e0, e1, e2, e3, e4, tt⟩
  · exact ⟨pd, e1, e2, e3, e4, e0, tt.rot⟩
  · exact ⟨pd, e2, e3, e4, e0, e1, tt.rot.rot⟩
  · exact ⟨pd, e3, e4, e0, e1, e2, tt.rot.rot.rot⟩
  · exact ⟨pd, e4, e0, e1, e2, e3, tt.rot.rot.rot.rot⟩
def H1 (P Q S : Int → Int) (d : Int) : Prop := ∀ i, 0 ≤ i → i ≤ 4 → Dn (P i - d) (Q i) (S i)
def H2 (P Q S : Int → Int) (d : Int) : Prop := ∀ i, 0 ≤ i → i ≤ 4 → Up (P i - d) (Q i + d) (S i)
def H3 (P Q S : Int → Int) (d : Int) : Prop := ∀ i, 0 ≤ i → i ≤ 4 → Dn (P i - 2 * d) (Q i) (S i)
def H4 (P Q S : Int → Int) (d : Int) : Prop := ∀ i, 0 ≤ i → i ≤ 4 → Up (P i - 2 * d) (Q i + d) (S i)
theorem h5 {C : Int → Prop} (h0 : C 0) (h1 : C 1) (h2 : C 2) (h3 : C 3) (h4 : C 4) : ∀ i, 0 ≤ i → i ≤ 4 → C i := fun i i0 i4 => by
  rcases five_of i0 i4 with rfl | rfl | rfl | rfl | rfl <;> assumption
/-- the rests of the row with u more at j -/
def rsP (P : Int → Int) (d j u : Int) : Int → Int := fun i => P i + if i = j ∨ i = (j + 1) % 5 ∨ i = (j + 4) % 5 then u * d else 0
def rsQ (Q : Int → Int) (d j u : Int) : Int → Int := fun i => Q i - if i = j then u * d else 0
end ND

/-! ND60: rows of a floor by their rests; a tile stands where its four corners do -/
namespace ND
open PySem PySem.Spec L2
structure Fl (a b : Int → Int) (d : Int) (s : List Int) : Prop where
  kr : KR a b
  d1 : 1 ≤ d
  hs : s ∈ sidesL (whL a b d)
theorem KA.fl {n : Nat} {a b : Int → Int} {d : Int} {s : List Int} (h : KA n a b d) (hs : s ∈ sidesL (whL a b d)) : Fl a b d s := ⟨h.r, h.d1, hs⟩
def Pf (a : Int → Int) (d : Int) (f : Int → Int) : Int → Int := fun i => shA f i * d - a i
def Qf (b : Int → Int) (d : Int) (f : Int → Int) : Int → Int := fun i => shB f i * d - b i
theorem cf_of {a b : Int → Int} {d : Int} {s : List Int} (F : Fl a b d s) (f : Int → Int) : Cf (Pf a d f) (Qf b d f) (at0 s) d (sum5 f * d) := by
  obtain ⟨kr, d1, hs⟩ := F
  have tt := tt_all _ (whL_mem kr) s hs
  obtain ⟨⟨a2, b2⟩, ⟨a3, b3⟩, ⟨a4, b4⟩⟩ := kr
  have pd : psg d 0 = 1 := by
    have := pos_d d1 1 0 (by decide)
    rwa [Int.mul_one, Int.mul_zero] at this
  refine ⟨pd, ?_, ?_, ?_, ?_, ?_, tt⟩ <;> simp [Pf, Qf, shA, shB, sum5] <;> refine ⟨?_, ?_⟩ <;> grind
theorem tie_two {a b : Int → Int} {d : Int} {s : List Int} (F : Fl a b d s) {f : Int → Int} {r x y : Int} (r0 : 0 ≤ r) (r4 : r ≤ 4) (h1 : Pf a d f r - x * d = 0) (h2 : Qf b d f r - y * d = 0) : at0 s r = 1 ∨ at0 s r = -1 := by
  refine side_at' _ (whL_mem F.kr) s F.hs r (List.mem_filter.mpr ⟨in_dirs r0 r4, wh_iff.mpr ⟨⟨shA f r - x, ?_⟩, ⟨shB f r - y, ?_⟩⟩⟩)
  · unfold Pf at h1
    rw [Int.mul_sub, Int.mul_comm d, Int.mul_comm d]
    omega
  · unfold Qf at h2
    rw [Int.mul_sub, Int.mul_comm d, Int.mul_comm d]
    omega
theorem rp_pf {a b : Int → Int} {d : Int} {f : Int → Int} {r x y : Int} (r0 : 0 ≤ r) (r4 : r ≤ 4) : rpA a d f r x = Pf a d f r - x * d ∧ rpB b d f r y = Qf b d f r - y * d := by
  unfold rpA rpB Pf Qf
  rw [show r % 5 = r by omega]
  exact ⟨rfl, rfl⟩
theorem rsg_two {a b : Int → Int} {d : Int} {s : List Int} (F : Fl a b d s) {f : Int → Int} {r x y : Int} (r0 : 0 ≤ r) (r4 : r ≤ 4) : (0 < rsg a b d s f r x y ∧ Up (Pf a d f r - x * d) (Qf b d f r - y * d) (at0 s r)) ∨ (rsg a b d s f r x y < 0 ∧ Dn (Pf a d f r - x * d) (Qf b d f r - y * d) (at0 s r)) := by
  obtain ⟨e1, e2⟩ := rp_pf (a := a) (b := b) (d := d) (f := f) (x := x) (y := y) r0 r4
  have em : r % 5 = r := by omega
  rw [← e1, ← e2]
  have tw := fun h1 h2 => tie_two F (f := f) (x := x) (y := y) r0 r4 (e1 ▸ h1) (e2 ▸ h2)
  unfold rsg
  rw [em]
  rcases psg_tri (rpA a d f r x) (rpB b d f r y) with e | e | e
  · rw [e]
    rw [if_pos (by decide)]
    exact .inl ⟨by decide, .pos e rfl rfl⟩
  · obtain ⟨h1, h2⟩ := psg_zero e
    rw [e, h1, h2, if_neg (by decide)]
    rcases tw h1 h2 with t | t
    · rw [t]
      exact .inr ⟨by decide, .inr ⟨rfl, rfl⟩, fun _ _ => rfl⟩
    · rw [t]
      exact .inl ⟨by decide, .inr ⟨rfl, rfl⟩, fun _ _ => rfl⟩
  · rw [e]
    rw [if_pos (by decide)]
    exact .inr ⟨by decide, .pos (by rw [psg_neg, e]; rfl) rfl rfl⟩
theorem rsg_up_iff {a b : Int → Int} {d : Int} {s : List Int} (F : Fl a b d s) {f : Int → Int} {r x y : Int} (r0 : 0 ≤ r) (r4 : r ≤ 4) : 0 < rsg a b d s f r x y ↔ Up (Pf a d f r - x * d) (Qf b d f r - y * d) (at0 s r) := by
  rcases rsg_two F (f := f) (x := x) (y := y) r0 r4 with ⟨h, k⟩ | ⟨h, k⟩
  · exact ⟨fun _ => k, fun _ => h⟩
  · exact ⟨fun z => by omega, fun z => (up_dn z k).elim⟩
theorem has_win {a b : Int → Int} {d : Int} {s : List Int} {f : Int → Int} (h : 1 ≤ sum5 f ∧ sum5 f ≤ 4) : hasB a b d s f = true ↔ ∀ r, 0 ≤ r → r ≤ 4 → (decide (0 < rsg a b d s f r (wBnd (sum5 f)).1 (wBnd (sum5 f)).2) = wAbv (sum5 f)) := by
  unfold hasB withB
  rw [decide_eq_true h, Bool.true_and, List.all_eq_true]
  constructor
  · intro k r r0 r4
    exact beq_iff_eq.mp (k r (in_dirs r0 r4))
  · intro k r hr
    obtain ⟨r0, r4⟩ := dirs_in hr
    exact beq_iff_eq.mpr (k r r0 r4)
theorem all_iff {C E : Int → Prop} (h : ∀ i, 0 ≤ i → i ≤ 4 → (C i ↔ E i)) : (∀ i, 0 ≤ i → i ≤ 4 → C i) ↔ ∀ i, 0 ≤ i → i ≤ 4 → E i :=
  ⟨fun k i i0 i4 => (h i i0 i4).mp (k i i0 i4), fun k i i0 i4 => (h i i0 i4).mpr (k i i0 i4)⟩
theorem has2 {a b : Int → Int} {d : Int} {s : List Int} (F : Fl a b d s) {f : Int → Int} (e : sum5 f = 2) : hasB a b d s f = true ↔ H2 (Pf a d f) (Qf b d f) (at0 s) d := by
  rw [has_win (by omega), e]
  refine all_iff fun i i0 i4 => ?_
  show decide (0 < rsg a b d s f i 1 (-1)) = true ↔ _
  rw [decide_eq_true_iff, rsg_up_iff F i0 i4]
  exact ⟨fun z => z.to (by omega) (by omega), fun z => z.to (by omega) (by omega)⟩
theorem has3 {a b : Int → Int} {d : Int} {s : List Int} (F : Fl a b d s) {f : Int → Int} (e : sum5 f = 3) : hasB a b d s f = true ↔ H3 (Pf a d f) (Qf b d f) (at0 s) d := by
  rw [has_win (by omega), e]
  refine all_iff fun i i0 i4 => ?_
  show decide (0 < rsg a b d s f i 2 0) = false ↔ _
  rw [decide_eq_false_iff_not]
  rcases rsg_two F (f := f) (x := 2) (y := 0) i0 i4 with ⟨h, k⟩ | ⟨h, k⟩
  · exact ⟨fun z => absurd h z, fun z => (up_dn k (z.to (by omega) (by omega))).elim⟩
  · exact ⟨fun _ => k.to (by omega) (by omega), fun _ => by omega⟩
theorem pf_rz {a b : Int → Int} {d : Int} {f : Int → Int} {j u : Int} (j0 : 0 ≤ j) (j4 : j ≤ 4) : ∀ i, 0 ≤ i → i ≤ 4 → Pf a d (rz f j u) i = rsP (Pf a d f) d j u i ∧ Qf b d (rz f j u) i = rsQ (Qf b d f) d j u i := by
  intro i i0 i4
  rcases five_of j0 j4 with rfl | rfl | rfl | rfl | rfl <;> rcases five_of i0 i4 with rfl | rfl | rfl | rfl | rfl <;> simp [Pf, Qf, shA, shB, rz, rsP, rsQ] <;> grind
theorem sum_rz {f : Int → Int} {j u : Int} (j0 : 0 ≤ j) (j4 : j ≤ 4) : sum5 (rz f j u) = sum5 f + u := by
  rcases five_of j0 j4 with rfl | rfl | rfl | rfl | rfl <;> simp [sum5, rz] <;> omega
theorem h3_congr {P Q P' Q' S : Int → Int} {d : Int} (h : ∀ i, 0 ≤ i → i ≤ 4 → P i = P' i ∧ Q i = Q' i) : H3 P Q S d ↔ H3 P' Q' S d := all_iff fun i i0 i4 => by rw [(h i i0 i4).1, (h i i0 i4).2]
end ND

/-! ND61: a corner that only one of two floors beside one another has, has three edges -/
namespace ND
open PySem PySem.Spec L2
/-! ### the level 2 -/
theorem mid_a {p q s p' q' s' p'' q'' s'' d : Int} (h : Up (p - d) (q + d) s) (k : Up (p'' - d) (q'' + d) s'') (e : p + q' + p'' = 2 * d ∧ q + (p' + q') + q'' = 0) (t : s = -1 → s'' = -1 → s' = 1) : Dn (p' - 2 * d) q' s' := by
  refine Dn.of (h.1.add k.1).l (by omega) (by omega) fun z w => ?_
  obtain ⟨x, y, u, v⟩ := Nn.z2 h.1 k.1 rfl rfl (by omega) (by omega)
  exact t (h.2 (by omega) (by omega)) (k.2 (by omega) (by omega))
theorem mid_all {P Q S : Int → Int} {d : Int} (c : Cf P Q S d (2 * d)) (h : H2 P Q S d) : H3 P Q S d := by
  have tt := c.tt
  have g := fun {a b c d e : Int} (t : TT a b c d e) (x : a = -1) (y : c = -1) => t.gap (z := -1) (.inr rfl) x y
  exact h5 (mid_a (h 4 (by decide) (by decide)) (h 1 (by decide) (by decide)) c.e4 (g tt.rot.rot.rot.rot)) (mid_a (h 0 (by decide) (by decide)) (h 2 (by decide) (by decide)) c.e0 (g tt)) (mid_a (h 1 (by decide) (by decide)) (h 3 (by decide) (by decide)) c.e1 (g tt.rot)) (mid_a (h 2 (by decide) (by decide)) (h 4 (by decide) (by decide)) c.e2 (g tt.rot.rot)) (mid_a (h 3 (by decide) (by decide)) (h 0 (by decide) (by decide)) c.e3 (g tt.rot.rot.rot))
theorem rsP_at {P : Int → Int} {d j u i : Int} : rsP P d j u i = P i + if i = j ∨ i = (j + 1) % 5 ∨ i = (j + 4) % 5 then u * d else 0 := rfl
theorem rsQ_at {P : Int → Int} {d j u i : Int} : rsQ P d j u i = P i - if i = j then u * d else 0 := rfl
theorem five_about {j i : Int} (j0 : 0 ≤ j) (j4 : j ≤ 4) (i0 : 0 ≤ i) (i4 : i ≤ 4) : i = j ∨ i = (j + 1) % 5 ∨ i = (j + 2) % 5 ∨ i = (j + 3) % 5 ∨ i = (j + 4) % 5 := by omega
/-- what stands about j -/
theorem rs_vals {P Q : Int → Int} {d j u : Int} (j0 : 0 ≤ j) (j4 : j ≤ 4) : (rsP P d j u j = P j + u * d ∧ rsQ Q d j u j = Q j - u * d) ∧ (rsP P d j u ((j + 1) % 5) = P ((j + 1) % 5) + u * d ∧ rsQ Q d j u ((j + 1) % 5) = Q ((j + 1) % 5)) ∧ (rsP P d j u ((j + 2) % 5) = P ((j + 2) % 5) ∧ rsQ Q d j u ((j + 2) % 5) = Q ((j + 2) % 5)) ∧ (rsP P d j u ((j + 3) % 5) = P ((j + 3) % 5) ∧ rsQ Q d j u ((j + 3) % 5) = Q ((j + 3) % 5)) ∧ (rsP P d j u ((j + 4) % 5) = P ((j + 4) % 5) + u * d ∧ rsQ Q d j u ((j + 4) % 5) = Q ((j + 4) % 5)) := by
  rcases five_of j0 j4 with rfl | rfl | rfl | rfl | rfl <;> simp [rsP_at, rsQ_at]
theorem ab_all {C : Int → Prop} {j : Int} (j0 : 0 ≤ j) (j4 : j ≤ 4) (h0 : C j) (h1 : C ((j + 1) % 5)) (h2 : C ((j + 2) % 5)) (h3 : C ((j + 3) % 5)) (h4 : C ((j + 4) % 5)) : ∀ i, 0 ≤ i → i ≤ 4 → C i := fun i i0 i4 => by
  rcases five_about j0 j4 i0 i4 with e | e | e | e | e <;> rw [e] <;> assumption
theorem mid_up {P Q S : Int → Int} {d j : Int} (c : Cf P Q S d (2 * d)) (h : H2 P Q S d) (j0 : 0 ≤ j) (j4 : j ≤ 4) : H3 (rsP P d j 1) (rsQ Q d j 1) S d ↔ Dn (P ((j + 1) % 5) - d) (Q ((j + 1) % 5)) (S ((j + 1) % 5)) ∧ Dn (P ((j + 4) % 5) - d) (Q ((j + 4) % 5)) (S ((j + 4) % 5)) := by
  have a := mid_all c h
  obtain ⟨⟨p0, q0⟩, ⟨p1, q1⟩, ⟨p2, q2⟩, ⟨p3, q3⟩, ⟨p4, q4⟩⟩ := rs_vals (P := P) (Q := Q) (d := d) (u := 1) j0 j4
  have m := mod5_in
  constructor
  · intro k
    have k1 := k _ (m (j + 1)).1 (m (j + 1)).2
    have k4 := k _ (m (j + 4)).1 (m (j + 4)).2
    rw [p1, q1] at k1
    rw [p4, q4] at k4
    exact ⟨k1.to (by omega) rfl, k4.to (by omega) rfl⟩
  · rintro ⟨k1, k4⟩
    refine ab_all (C := fun i => Dn (rsP P d j 1 i - 2 * d) (rsQ Q d j 1 i) (S i)) j0 j4 ?_ ?_ ?_ ?_ ?_
    · rw [p0, q0]
      exact Dn.pos (pos_nn (pos_l c.pd) (a j j0 j4).1) (by omega) (by omega)
    · rw [p1, q1]
      exact k1.to (by omega) rfl
    · rw [p2, q2]
      exact a _ (m _).1 (m _).2
    · rw [p3, q3]
      exact a _ (m _).1 (m _).2
    · rw [p4, q4]
      exact k4.to (by omega) rfl
end ND

/-! ND62: stars; three edges -/
namespace ND
open PySem PySem.Spec L2
section
variable {a b : Int → Int} {d : Int} {s : List Int} {f : Int → Int} {j r : Int}
theorem two_up (F : Fl a b d s) (e : sum5 f = 2) (h : hasB a b d s f = true) (j0 : 0 ≤ j) (j4 : j ≤ 4) : hasB a b d s (rz f j 1) = true ↔ Dn (Pf a d f ((j + 1) % 5) - d) (Qf b d f ((j + 1) % 5)) (at0 s ((j + 1) % 5)) ∧ Dn (Pf a d f ((j + 4) % 5) - d) (Qf b d f ((j + 4) % 5)) (at0 s ((j + 4) % 5)) := by
  have c := cf_of F f
  rw [e] at c
  rw [has3 F (by rw [sum_rz j0 j4, e]; rfl), h3_congr (pf_rz j0 j4)]
  exact mid_up c ((has2 F e).mp h) j0 j4
theorem nf {x : Bool} {A : Prop} (hx : x = true ↔ A) (h : ¬ A) : x = false := by
  cases x
  · rfl
  · exact (h (hx.mp rfl)).elim
end
/-! ### the opposite floor -/
end ND

/-! ND63: floors whose keys are moved a very little -/
namespace ND
open PySem PySem.Spec L2
theorem psg_one_iff {a b : Int} : psg a b = 1 ↔ (0 ≤ 2 * a + b ∧ 0 ≤ b ∧ (0 < 2 * a + b ∨ 0 < b)) ∨ (0 < 2 * a + b ∧ b < 0 ∧ 5 * b * b < (2 * a + b) * (2 * a + b)) ∨ (2 * a + b < 0 ∧ 0 < b ∧ (2 * a + b) * (2 * a + b) ≤ 5 * b * b) := by
  unfold psg
  generalize 5 * b * b = p
  generalize (2 * a + b) * (2 * a + b) = q
  generalize 2 * a + b = x
  constructor
  · intro h
    repeat' split at h
    all_goals omega
  · intro h
    repeat' split
    all_goals omega
/-- heights given at two directions -/
theorem HR.adj {a b : Int → Int} (h : HR a b) {r : Int} (r0 : 0 ≤ r) (r4 : r ≤ 4) : a ((r + 2) % 5) = b ((r + 1) % 5) - a ((r + 1) % 5) - a r ∧ b ((r + 2) % 5) = a ((r + 1) % 5) - b r ∧ a ((r + 3) % 5) = a r - b r + (a ((r + 1) % 5) - b ((r + 1) % 5)) ∧ b ((r + 3) % 5) = -a r - a ((r + 1) % 5) ∧ a ((r + 4) % 5) = b r - a r - a ((r + 1) % 5) ∧ b ((r + 4) % 5) = a r - b ((r + 1) % 5) := by
  have k3 := h.k3
  have k4 := h.k4
  obtain ⟨k0, k1, k2⟩ := h
  rcases five_of r0 r4 with rfl | rfl | rfl | rfl | rfl <;> simp only [Int.reduceAdd, Int.reduceMod, Int.zero_add] <;> omega
theorem HR.gap {a b : Int → Int} (h : HR a b) {r : Int} (r0 : 0 ≤ r) (r4 : r ≤ 4) : a ((r + 1) % 5) = b r + b ((r + 2) % 5) ∧ b ((r + 1) % 5) = a r + b r + (a ((r + 2) % 5) + b ((r + 2) % 5)) ∧ a ((r + 3) % 5) = -b r - a ((r + 2) % 5) ∧ b ((r + 3) % 5) = -a r - b r - b ((r + 2) % 5) ∧ a ((r + 4) % 5) = -a r - b ((r + 2) % 5) ∧ b ((r + 4) % 5) = -b r - b ((r + 2) % 5) - a ((r + 2) % 5) := by
  have := h.adj r0 r4
  omega
/-! ### floors told by a dict that tells the whole directions, too -/
section
variable {a b : Int → Int} {d : Int} {s : List Int} {ta tb : Int → Int} {Q : D → Prop}
end
/-! ### a comprehension over what a list of anything tells -/
theorem lc_gen {ι : Type} {gt : GG} {ft : GT} {fe : GE} {own : List Nat} {σ : List SV} {Q : List D → Prop} (h : ι → D) (c : ι → Bool) (v : ι → D) : ∀ (L : List ι) (acc : List D), (∀ x ∈ L, ∀ (A : D → Prop) (B : Prop), (c x = true → A (v x)) → (c x = false → B) → gt (h x) (wipeD σ own) fun σ2 => ft σ2 fun b => if b = true then fe σ2 A else B) → acc.length + L.length ≤ sizeLine → Q (acc ++ (L.filter c).map v) → lcG gt ft fe own σ Q (L.map h) acc
  | [], acc, _, _, q => by simpa [lcG] using q
  | x :: L, acc, k, hl, q => by
    simp only [List.length_cons] at hl
    have rest := fun acc' l' q' => lc_gen (Q := Q) h c v L acc' (fun y m => k y (List.mem_cons_of_mem _ m)) l' q'
    exact k x List.mem_cons_self _ _ (fun hc => ⟨by omega, rest _ (by simp; omega) (by simpa [hc] using q)⟩) (fun hc => rest _ (by omega) (by simpa [hc] using q))
/-! ### any value as a corner -/
/-! ### floors beside one another -/
def FlD (x : D) (a b : Int → Int) (d : Int) (s : List Int) : Prop := x = flo (keyD a b d) s ∧ KA 4000 a b d ∧ s ∈ sidesL (whL a b d)
theorem FlD.len {x : D} {a b : Int → Int} {d : Int} {s : List Int} (h : FlD x a b d s) : s.length = 5 := sidesL_five _ (whL_mem h.2.1.r) s h.2.2
end ND

/-! ND64: letters of a text, one by one -/
namespace ND
open PySem PySem.Spec L2
section
variable {B : Bs} {X : Cx} {e : Expr} {fa : GE}
end
end ND

/-! ND65: gathered floors -/
namespace ND
open PySem PySem.Spec L2
theorem KR.gt {a b : Int → Int} (h : KR a b) : KR (fun r => -b r) (fun r => -(a r + b r)) := by
  obtain ⟨⟨a2, b2⟩, ⟨a3, b3⟩, ⟨a4, b4⟩⟩ := h
  exact ⟨⟨by omega, by omega⟩, ⟨by omega, by omega⟩, ⟨by omega, by omega⟩⟩
theorem KR.ct {a b : Int → Int} (h : KR a b) : KR (fun r => -(b r - a r)) (fun r => -a r) := by
  obtain ⟨⟨a2, b2⟩, ⟨a3, b3⟩, ⟨a4, b4⟩⟩ := h
  exact ⟨⟨by omega, by omega⟩, ⟨by omega, by omega⟩, ⟨by omega, by omega⟩⟩
theorem KA.gt {n : Nat} {a b : Int → Int} {d : Int} (h : KA n a b d) : KA (n + 1) (fun r => -b r) (fun r => -(a r + b r)) d :=
  ⟨KR.gt h.r, h.d1, h.sd.mono (by omega), fun i i0 i4 => ((h.sb i i0 i4).neg).mono (by omega), fun i i0 i4 => ((h.sa i i0 i4).add (h.sb i i0 i4)).neg⟩
theorem KA.ct {n : Nat} {a b : Int → Int} {d : Int} (h : KA n a b d) : KA (n + 1) (fun r => -(b r - a r)) (fun r => -a r) d :=
  ⟨KR.ct h.r, h.d1, h.sd.mono (by omega), fun i i0 i4 => ((h.sb i i0 i4).sub (h.sa i i0 i4)).neg, fun i i0 i4 => ((h.sa i i0 i4).neg).mono (by omega)⟩
theorem Fr.gt {n : Nat} {x : D} {p q d : Int} (h : Fr n x p q d) : ∃ u v w, x = tri u v w ∧ Num n u v w ∧ Fr (n + 1) (tri (-v) (-(u + v)) w) (-q) (-(p + q)) d ∧ Fr (n + 1) (tri (-(v - u)) (-u) w) (-(q - p)) (-p) d := by
  obtain ⟨u, v, w, rfl, hn, e1, e2⟩ := h
  have g1 : -v * d = -q * w := by rw [Int.neg_mul, Int.neg_mul, e2]
  have g2 : -(u + v) * d = -(p + q) * w := by
    rw [Int.neg_mul, Int.neg_mul, Int.add_mul, Int.add_mul, e1, e2]
  have g3 : -(v - u) * d = -(q - p) * w := by
    rw [Int.neg_mul, Int.neg_mul, Int.sub_mul, Int.sub_mul, e1, e2]
  have g4 : -u * d = -p * w := by rw [Int.neg_mul, Int.neg_mul, e1]
  exact ⟨u, v, w, rfl, hn, ⟨_, _, _, rfl, ⟨hn.2.1.neg.mono (by omega), (hn.1.add hn.2.1).neg, hn.2.2.1.mono (by omega), hn.2.2.2⟩, g1, g2⟩, ⟨_, _, _, rfl, ⟨(hn.2.1.sub hn.1).neg, hn.1.neg.mono (by omega), hn.2.2.1.mono (by omega), hn.2.2.2⟩, g3, g4⟩⟩
end ND

/-! ND66: bars and their phases -/
namespace ND
open PySem PySem.Spec L2
def WldN (n : Nat) (a b : Int → Int) (d : Int) (s : List Int) : Prop := KA n a b d ∧ s ∈ sidesL (whL a b d)
abbrev Wld := WldN 1000
/-- a drawn floor: its keys are of 160 bits, their bottom of 30 -/
structure Wld3 (a b : Int → Int) (d : Int) (s : List Int) : Prop where
  ka : KA 160 a b d
  hs : s ∈ sidesL (whL a b d)
  sd : Sz 30 d
def wrl (a b : Int → Int) (d : Int) (s : List Int) : D := .tup [.int d, keysP a b, tD s]
abbrev brD (j x y : Int) : D := .tup [.int j, .int x, .int y]
/-- the phase of a bar (j, x, y), less u + v g, told by its sign; ties by the side -/
def bpA (a : Int → Int) (d j x y u : Int) : Int := (x + y) * d - a j - u * d
def bpB (b : Int → Int) (d j x v : Int) : Int := -x * d - b j - v * d
def phS (a b : Int → Int) (d : Int) (s : List Int) (j x y u v : Int) : Int :=
  if psg (bpA a d j x y u) (bpB b d j x v) ≠ 0 then psg (bpA a d j x y u) (bpB b d j x v) else -at0 s j
def hasR (a b : Int → Int) (d : Int) (s : List Int) (j x y : Int) : Bool := decide (0 < phS a b d s j x y 1 (-1)) && decide (phS a b d s j x y 1 0 < 0)
/-- the x of the bar with a number -/
def bfl (a b : Int → Int) (d j n : Int) : Int := flr (-b j - ((n - 1) * d - a j)) ((n - 1) * d - a j) d
def barX (a b : Int → Int) (d : Int) (s : List Int) (j n : Int) : Int :=
  if hasR a b d s j (bfl a b d j n + 1) (n - (bfl a b d j n + 1)) = true then bfl a b d j n + 1 else bfl a b d j n
section
variable {a b : Int → Int} {d : Int} {s : List Int} {j : Int}
theorem ph_tie (F : Fl a b d s) (j0 : 0 ≤ j) (j4 : j ≤ 4) {x y u v : Int} (h : psg (bpA a d j x y u) (bpB b d j x v) = 0) : at0 s j = 1 ∨ at0 s j = -1 := by
  obtain ⟨h1, h2⟩ := psg_zero h
  unfold bpA at h1
  unfold bpB at h2
  refine side_at' _ (whL_mem F.kr) s F.hs j (List.mem_filter.mpr ⟨in_dirs j0 j4, wh_iff.mpr ⟨⟨x + y - u, ?_⟩, ⟨-x - v, ?_⟩⟩⟩)
  · rw [Int.mul_comm, Int.sub_mul]
    omega
  · rw [Int.mul_comm, Int.sub_mul]
    omega
theorem ph_pm (F : Fl a b d s) (j0 : 0 ≤ j) (j4 : j ≤ 4) (x y u v : Int) : phS a b d s j x y u v = 1 ∨ phS a b d s j x y u v = -1 := by
  unfold phS
  split
  · rename_i h
    rcases psg_tri (bpA a d j x y u) (bpB b d j x v) with e | e | e <;> omega
  · rename_i h
    have := ph_tie F j0 j4 (show psg (bpA a d j x y u) (bpB b d j x v) = 0 by omega)
    omega
theorem ph_up (h : phS a b d s j x y u v = 1) : psg (bpA a d j x y u) (bpB b d j x v) = 1 ∨ (bpA a d j x y u = 0 ∧ bpB b d j x v = 0 ∧ at0 s j = -1) := by
  unfold phS at h
  split at h
  · exact .inl h
  · rename_i z
    obtain ⟨h1, h2⟩ := psg_zero (show psg (bpA a d j x y u) (bpB b d j x v) = 0 by omega)
    exact .inr ⟨h1, h2, by omega⟩
theorem ph_dn (h : phS a b d s j x y u v = -1) : psg (-bpA a d j x y u) (-bpB b d j x v) = 1 ∨ (bpA a d j x y u = 0 ∧ bpB b d j x v = 0 ∧ at0 s j = 1) := by
  unfold phS at h
  split at h
  · refine .inl ?_
    rw [psg_neg]
    omega
  · rename_i z
    obtain ⟨h1, h2⟩ := psg_zero (show psg (bpA a d j x y u) (bpB b d j x v) = 0 by omega)
    exact .inr ⟨h1, h2, by omega⟩
theorem up_ph (h : psg (bpA a d j x y u) (bpB b d j x v) = 1) : phS a b d s j x y u v = 1 := by
  unfold phS
  rw [if_pos (by omega), h]
theorem dn_ph (h : psg (-bpA a d j x y u) (-bpB b d j x v) = 1) : phS a b d s j x y u v = -1 := by
  rw [psg_neg] at h
  unfold phS
  rw [if_pos (by omega)]
  omega
theorem zr_ph (h1 : bpA a d j x y u = 0) (h2 : bpB b d j x v = 0) : phS a b d s j x y u v = -at0 s j := by
  unfold phS
  rw [h1, h2, if_neg (by decide)]
theorem pos_dg {d k : Int} (hd : 1 ≤ d) (hk : 1 ≤ k) : psg 0 (k * d) = 1 := by
  have := Int.mul_pos (show 0 < k by omega) (show 0 < d by omega)
  rw [psg_one_iff]
  exact .inl ⟨by omega, by omega, by omega⟩
theorem has_iff (F : Fl a b d s) (j0 : 0 ≤ j) (j4 : j ≤ 4) {x y : Int} : hasR a b d s j x y = true ↔ phS a b d s j x y 1 (-1) = 1 ∧ phS a b d s j x y 1 0 = -1 := by
  unfold hasR
  rw [Bool.and_eq_true, decide_eq_true_eq, decide_eq_true_eq]
  have h1 := ph_pm F j0 j4 x y 1 (-1)
  have h2 := ph_pm F j0 j4 x y 1 0
  omega
/-- there is just one bar with a number -/
theorem bar_uniq (F : Fl a b d s) (j0 : 0 ≤ j) (j4 : j ≤ 4) {x y x' y' : Int} (h : hasR a b d s j x y = true) (h' : hasR a b d s j x' y' = true) (e : x + y = x' + y') : x = x' := by
  have key : ∀ {x y x' y' : Int}, hasR a b d s j x y = true → hasR a b d s j x' y' = true → x + y = x' + y' → ¬ x < x' := fun {x y x' y'} h h' e l => by
    obtain ⟨_, h2⟩ := (has_iff F j0 j4).mp h
    obtain ⟨h1, _⟩ := (has_iff F j0 j4).mp h'
    obtain ⟨k, rfl⟩ : ∃ k, x' = x + 1 + k := ⟨x' - x - 1, by omega⟩
    have eA : bpA a d j x y 1 = bpA a d j (x + 1 + k) y' 1 := by
      unfold bpA
      rw [e]
    have eB : bpB b d j (x + 1 + k) (-1) = bpB b d j x 0 - k * d := by
      unfold bpB
      grind
    rcases ph_dn h2 with p | ⟨p1, p2, p3⟩
    · rcases ph_up h1 with q | ⟨q1, q2, q3⟩
      · have := pos_add p q
        rw [eA, eB, show -bpA a d j (x + 1 + k) y' 1 + bpA a d j (x + 1 + k) y' 1 = 0 by omega, show -bpB b d j x 0 + (bpB b d j x 0 - k * d) = -(k * d) by omega] at this
        by_cases hk : k = 0
        · subst hk
          rw [Int.zero_mul] at this
          exact absurd this (by decide)
        · have z := pos_dg F.d1 (show 1 ≤ k by omega)
          have := psg_neg 0 (k * d)
          rw [Int.neg_zero] at this
          omega
      · rw [eA, q1] at p
        by_cases hk : k = 0
        · subst hk
          rw [show bpB b d j x 0 = 0 by omega] at p
          exact absurd p (by decide)
        · have z := pos_dg F.d1 (show 1 ≤ k by omega)
          have e2 : bpB b d j x 0 = k * d := by omega
          rw [e2, psg_neg] at p
          omega
    · rcases ph_up h1 with q | ⟨q1, q2, q3⟩
      · rw [← eA, p1, eB, p2] at q
        by_cases hk : k = 0
        · subst hk
          rw [Int.zero_mul] at q
          exact absurd q (by decide)
        · have z := pos_dg F.d1 (show 1 ≤ k by omega)
          have := psg_neg 0 (k * d)
          rw [Int.neg_zero] at this
          rw [show (0 : Int) - k * d = -(k * d) by omega] at q
          omega
      · omega
  have k1 := key h h' e
  have k2 := key h' h e.symm
  omega
theorem bfl_ok (F : Fl a b d s) (n : Int) : 0 ≤ psg (bpA a d j (bfl a b d j n) (n - bfl a b d j n) 1) (bpB b d j (bfl a b d j n) 0) ∧ psg (-bpA a d j (bfl a b d j n + 1) (n - (bfl a b d j n + 1)) 1) (-bpB b d j (bfl a b d j n + 1) 0) = 1 := by
  obtain ⟨h1, h2⟩ := flr_ok (a := -b j - ((n - 1) * d - a j)) (b := (n - 1) * d - a j) F.d1
  rw [← bfl] at h1 h2
  have g : ∀ k : Int, psg (bpA a d j k (n - k) 1) (bpB b d j k 0) = psg ((-b j - ((n - 1) * d - a j)) - k * d) ((n - 1) * d - a j) := fun k => by
    have e1 : bpA a d j k (n - k) 1 = (n - 1) * d - a j := by
      unfold bpA
      grind
    have e2 : bpB b d j k 0 = (-b j - ((n - 1) * d - a j)) - k * d + ((n - 1) * d - a j) := by
      unfold bpB
      grind
    rw [e1, e2]
    generalize (-b j - ((n - 1) * d - a j)) - k * d = p
    generalize (n - 1) * d - a j = q
    rcases psg_tri p q with z | z | z
    · rw [z, pos_g.mpr z]
    · obtain ⟨rfl, rfl⟩ := psg_zero z
      rfl
    · have z2 : psg (-p) (-q) = 1 := by rw [psg_neg, z]; rfl
      have z3 := pos_g.mpr z2
      rw [show -p + -q = -(p + q) by omega, psg_neg] at z3
      omega
  rw [g, psg_neg, g]
  refine ⟨h1, ?_⟩
  rcases psg_tri ((-b j - ((n - 1) * d - a j)) - (bfl a b d j n + 1) * d) ((n - 1) * d - a j) with z | z | z <;> omega
theorem bar_shift {x n : Int} : bpA a d j (x + 1) (n - (x + 1)) 1 = bpA a d j x (n - x) 1 ∧ bpB b d j (x + 1) (-1) = bpB b d j x 0 := by
  unfold bpA bpB
  constructor <;> grind
theorem bar_has (F : Fl a b d s) (j0 : 0 ≤ j) (j4 : j ≤ 4) (n : Int) : hasR a b d s j (barX a b d s j n) (n - barX a b d s j n) = true := by
  obtain ⟨h1, h2⟩ := bfl_ok (j := j) F n
  unfold barX
  generalize bfl a b d j n = x0 at *
  split
  · assumption
  · rename_i hn
    obtain ⟨e1, e2⟩ := bar_shift (a := a) (b := b) (d := d) (j := j) (x := x0) (n := n)
    have d1 : phS a b d s j (x0 + 1) (n - (x0 + 1)) 1 0 = -1 := dn_ph h2
    have n1 : phS a b d s j (x0 + 1) (n - (x0 + 1)) 1 (-1) ≠ 1 := fun z => hn ((has_iff F j0 j4).mpr ⟨z, d1⟩)
    have m1 : phS a b d s j (x0 + 1) (n - (x0 + 1)) 1 (-1) = -1 := by
      rcases ph_pm F j0 j4 (x0 + 1) (n - (x0 + 1)) 1 (-1) with h | h
      · exact absurd h n1
      · exact h
    have tie : bpA a d j x0 (n - x0) 1 = 0 ∧ bpB b d j x0 0 = 0 ∧ at0 s j = 1 := by
      rcases ph_dn m1 with p | ⟨p1, p2, p3⟩
      · rw [e1, e2, psg_neg] at p
        omega
      · exact ⟨e1 ▸ p1, e2 ▸ p2, p3⟩
    obtain ⟨t1, t2, t3⟩ := tie
    rw [has_iff F j0 j4]
    refine ⟨up_ph ?_, ?_⟩
    · have : bpB b d j x0 (-1) = 1 * d := by
        have : bpB b d j x0 (-1) = bpB b d j x0 0 + d := by
          unfold bpB
          grind
        omega
      rw [t1, this]
      exact pos_dg F.d1 (by decide)
    · rw [zr_ph t1 t2, t3]
/-- the other way to tell the bar: one more, if the phase there is above 1 -/
theorem bar_law (F : Fl a b d s) (j0 : 0 ≤ j) (j4 : j ≤ 4) (n : Int) : barX a b d s j n = if 0 < phS a b d s j (bfl a b d j n) (n - bfl a b d j n) 1 0 then bfl a b d j n + 1 else bfl a b d j n := by
  obtain ⟨h1, h2⟩ := bfl_ok (j := j) F n
  unfold barX
  generalize bfl a b d j n = x0 at *
  obtain ⟨e1, e2⟩ := bar_shift (a := a) (b := b) (d := d) (j := j) (x := x0) (n := n)
  have d1 : phS a b d s j (x0 + 1) (n - (x0 + 1)) 1 0 = -1 := dn_ph h2
  have e3 : phS a b d s j (x0 + 1) (n - (x0 + 1)) 1 (-1) = phS a b d s j x0 (n - x0) 1 0 := by
    unfold phS
    rw [e1, e2]
  have hi := has_iff F j0 j4 (x := x0 + 1) (y := n - (x0 + 1))
  rw [e3, d1] at hi
  rcases ph_pm F j0 j4 x0 (n - x0) 1 0 with h | h
  · rw [if_pos (hi.mpr ⟨h, rfl⟩), if_pos (by omega)]
  · rw [if_neg (fun z => by have := (hi.mp z).1; omega), if_neg (by omega)]
/-! ### gathered -/
theorem psg_mul {p q d : Int} (hd : 1 ≤ d) (h : psg p q = 1) : psg (p * d) (q * d) = 1 := by
  rw [Int.mul_comm p, Int.mul_comm q, psg_scale hd]
  exact h
theorem ph_down (F : Fl a b d s) {x y u v u' v' : Int} (h : phS a b d s j x y u v = -1) (k : psg (u' - u) (v' - v) = 1) : phS a b d s j x y u' v' = -1 := by
  refine dn_ph ?_
  have e1 : -bpA a d j x y u' = -bpA a d j x y u + (u' - u) * d := by
    unfold bpA
    grind
  have e2 : -bpB b d j x v' = -bpB b d j x v + (v' - v) * d := by
    unfold bpB
    grind
  have q := psg_mul F.d1 k
  rw [e1, e2]
  rcases ph_dn h with p | ⟨p1, p2, _⟩
  · exact pos_add p q
  · rw [p1, p2, Int.neg_zero, Int.zero_add, Int.zero_add]
    exact q
theorem ph_above (F : Fl a b d s) {x y u v u' v' : Int} (h : phS a b d s j x y u' v' = 1) (k : psg (u' - u) (v' - v) = 1) : phS a b d s j x y u v = 1 := by
  refine up_ph ?_
  have e1 : bpA a d j x y u = bpA a d j x y u' + (u' - u) * d := by
    unfold bpA
    grind
  have e2 : bpB b d j x v = bpB b d j x v' + (v' - v) * d := by
    unfold bpB
    grind
  have q := psg_mul F.d1 k
  rw [e1, e2]
  rcases ph_up h with p | ⟨p1, p2, _⟩
  · exact pos_add p q
  · rw [p1, p2, Int.zero_add, Int.zero_add]
    exact q
theorem ph_x (x y u v : Int) : phS a b d s j (x + 1) y u v = phS a b d s j x y (u - 1) (v + 1) := by
  have e1 : bpA a d j (x + 1) y u = bpA a d j x y (u - 1) := by
    unfold bpA
    grind
  have e2 : bpB b d j (x + 1) v = bpB b d j x (v + 1) := by
    unfold bpB
    grind
  unfold phS
  rw [e1, e2]
theorem ph_y (x y u v : Int) : phS a b d s j x (y + 1) u v = phS a b d s j x y (u - 1) v := by
  have e1 : bpA a d j x (y + 1) u = bpA a d j x y (u - 1) := by
    unfold bpA
    grind
  unfold phS
  rw [e1]
/-- the next bar -/
theorem next_has (F : Fl a b d s) (j0 : 0 ≤ j) (j4 : j ≤ 4) {x y : Int} (h : hasR a b d s j x y = true) : (0 < phS a b d s j x y 0 0 → hasR a b d s j (x + 1) y = true) ∧ (¬ 0 < phS a b d s j x y 0 0 → hasR a b d s j x (y + 1) = true) := by
  rw [has_iff F j0 j4] at h
  have pm := ph_pm F j0 j4 x y 0 0
  refine ⟨fun k => ?_, fun k => ?_⟩
  · rw [has_iff F j0 j4, ph_x, ph_x]
    exact ⟨show phS a b d s j x y 0 0 = 1 by omega, ph_down F h.2 (by decide)⟩
  · rw [has_iff F j0 j4, ph_y, ph_y]
    exact ⟨ph_above F h.1 (by decide), show phS a b d s j x y 0 0 = -1 by omega⟩
end
end ND

/-! ND67: gaps as texts -/
namespace ND
open PySem PySem.Spec L2
/-! ### along the bars -/
section
variable {a b : Int → Int} {d : Int} {s : List Int} {j : Int}
end
end ND

/-! ND68: z[::-1] of a text -/
namespace ND
open PySem PySem.Spec L2
open PyProof.Rows
section
variable {B : Bs} {X : Cx} {e a b : Expr} {fa fb : GE} {pos : Pos}
end
end ND

/-! ND69: phases, their letters, and how long two of them agree -/
namespace ND
open PySem PySem.Spec L2
structure Ph (d a b : Int) : Prop where
  d1 : 1 ≤ d
  lo : psg (a - d) (b + d) = 1
  hi : psg (d - a) (-b) = 1
  nz : a % d ≠ 0 ∨ b % d ≠ 0
def plL (d : Int) : Nat → Int → Int → List Bool
  | 0, _, _ => []
  | n + 1, a, b => if psg a b < 0 then false :: plL d n (a + d) b else true :: plL d n (a + d) (b - d)
theorem pos2 {A B C D X Y : Int} (h : psg A B = 1) (k : psg C D = 1) (e1 : X = A + C) (e2 : Y = B + D) : psg X Y = 1 := by
  subst e1 e2
  exact pos_add h k
theorem pos_k {d u v X Y : Int} (hd : 1 ≤ d) (h : psg u v = 1) (e1 : X = u * d) (e2 : Y = v * d) : psg X Y = 1 := by
  subst e1 e2
  exact psg_mul hd h
theorem pos_gq {A B X Y : Int} (h : psg A B = 1) (e1 : X = B) (e2 : Y = A + B) : psg X Y = 1 := by
  subst e1 e2
  exact pos_g.mpr h
theorem neg_up {a b : Int} : psg a b = -1 ↔ psg (-a) (-b) = 1 := by
  rw [psg_neg]
  omega
section
variable {d a b p q : Int}
theorem Ph.ne (h : Ph d a b) : psg a b = 1 ∨ psg a b = -1 := by
  rcases psg_tri a b with e | e | e
  · exact .inl e
  · obtain ⟨rfl, rfl⟩ := psg_zero e
    have := h.nz
    simp at this
  · exact .inr e
theorem Ph.dn (h : Ph d a b) (k : psg a b = -1) : Ph d (a + d) b := by
  have d1 := h.d1
  have k2 := neg_up.mp k
  refine ⟨d1, ?_, ?_, ?_⟩
  · exact pos2 h.lo (pos_k (u := 1) (v := 0) (X := d) (Y := 0) d1 (by decide) (by omega) (by omega)) (by omega) (by omega)
  · rw [show d - (a + d) = -a by omega]
    exact k2
  · rw [Int.add_emod_right]
    exact h.nz
theorem Ph.up (h : Ph d a b) (k : psg a b = 1) : Ph d (a + d) (b - d) := by
  have d1 := h.d1
  refine ⟨d1, ?_, ?_, ?_⟩
  · rw [show a + d - d = a by omega, show b - d + d = b by omega]
    exact k
  · exact pos2 h.hi (pos_k (u := -1) (v := 1) (X := -d) (Y := d) d1 (by decide) (by omega) (by omega)) (by omega) (by omega)
  · rw [Int.add_emod_right, Int.sub_emod_right]
    exact h.nz
theorem Ph.gt (h : Ph d a b) (k : psg (2 * d - a) (-d - b) = 1) : Ph d (-b) (-a - b) := by
  have d1 := h.d1
  refine ⟨d1, ?_, ?_, ?_⟩
  · exact pos_gq k (by omega) (by omega)
  · exact pos_gq h.lo (by omega) (by omega)
  · have := h.nz
    rcases Int.emod_emod_of_dvd a (Int.dvd_refl d) with _
    by_cases hb : b % d = 0
    · right
      intro z
      have e1 : d ∣ b := Int.dvd_of_emod_eq_zero hb
      have e2 : d ∣ -a - b := Int.dvd_of_emod_eq_zero z
      have e3 : d ∣ a := by
        have := Int.dvd_neg.mpr (Int.dvd_add e2 e1)
        rw [show -(-a - b + b) = a by omega] at this
        exact this
      have := Int.emod_eq_zero_of_dvd e3
      omega
    · left
      intro z
      exact hb (Int.emod_eq_zero_of_dvd (Int.dvd_neg.mp (Int.dvd_of_emod_eq_zero z)))
/-! ### how long two phases agree -/
/-- what g does n times to x + y g is more than 2 d -/
def GW (d : Int) : Nat → Int → Int → Prop
  | 0, x, y => psg (x - 2 * d) y = 1
  | n + 1, x, y => GW d n y (x + y)
end
end ND

/-! ND70: two phases agree for a told number of letters; letters backwards; phases of bars -/
namespace ND
open PySem PySem.Spec L2
section
variable {d a b p q : Int}
theorem GW.less {C : Int} (hC : 1 ≤ C) : ∀ (n : Nat) {d x y : Int}, GW (C * d) n (C * x) (C * y) → GW d n x y
  | 0, d, x, y, w => by
    have w : psg (C * x - 2 * (C * d)) (C * y) = 1 := w
    rw [show C * x - 2 * (C * d) = C * (x - 2 * d) by grind, psg_scale hC] at w
    exact w
  | n + 1, d, x, y, w => by
    have w : GW (C * d) n (C * y) (C * x + C * y) := w
    rw [← Int.mul_add] at w
    exact GW.less hC n w
theorem GW.big {D : Int} : ∀ (k : Nat) (u v m : Int), m ≤ u → m ≤ v → 0 ≤ m → 2 * D < m * 2 ^ k → GW D (2 * k) u v
  | 0, u, v, m, h1, h2, h3, h4 => by
    show psg (u - 2 * D) v = 1
    rw [psg_one_iff]
    have : m * 2 ^ 0 = m := by simp
    exact .inl ⟨by omega, by omega, by omega⟩
  | k + 1, u, v, m, h1, h2, h3, h4 => by
    show GW D (2 * k) (u + v) (v + (u + v))
    refine GW.big k _ _ (2 * m) (by omega) (by omega) (by omega) ?_
    rw [Int.pow_succ, show m * (2 ^ k * 2) = 2 * m * 2 ^ k by grind] at h4
    exact h4
/-! ### backwards -/
def plP (d : Int) : Nat → Int → Int → Int × Int
  | 0, a, b => (a, b)
  | n + 1, a, b => if psg a b < 0 then plP d n (a + d) b else plP d n (a + d) (b - d)
theorem pl_up : ∀ (n : Nat) (a b : Int), plP d (n + 1) a b = (if psg (plP d n a b).1 (plP d n a b).2 < 0 then ((plP d n a b).1 + d, (plP d n a b).2) else ((plP d n a b).1 + d, (plP d n a b).2 - d)) ∧ plL d (n + 1) a b = plL d n a b ++ [decide (¬ psg (plP d n a b).1 (plP d n a b).2 < 0)]
  | 0, a, b => by
    refine ⟨rfl, ?_⟩
    show (if _ then _ else _) = [decide (¬ psg a b < 0)]
    by_cases h : psg a b < 0 <;> simp [h, plL]
  | n + 1, a, b => by
    rw [plP]
    conv =>
      arg 1
      rhs
      unfold plP
    conv =>
      arg 2
      rw [plL]
      rhs
      unfold plL plP
    by_cases h : psg a b < 0
    · simp only [if_pos h]
      obtain ⟨h1, h2⟩ := pl_up n (a + d) b
      exact ⟨h1, by rw [h2]; rfl⟩
    · simp only [if_neg h]
      obtain ⟨h1, h2⟩ := pl_up n (a + d) (b - d)
      exact ⟨h1, by rw [h2]; rfl⟩
theorem Ph.next (h : Ph d a b) : ∀ n : Nat, Ph d (plP d n a b).1 (plP d n a b).2
  | 0 => h
  | n + 1 => by
    have ih := h.next n
    rw [(pl_up n a b).1]
    rcases ih.ne with e | e
    · rw [if_neg (by omega)]
      exact ih.up e
    · rw [if_pos (by omega)]
      exact ih.dn e
end
/-! ### bars -/
section
variable {a b : Int → Int} {d : Int} {s : List Int} {j : Int}
end
end ND

/-! ND71: targets that are items of lists of one's own: x[i], y[j] = .. -/
namespace ND
open PySem PySem.Spec L2
open PyProof.Rows (envOfC)
variable {B : Bs} {X : Cx} {e t : Expr} {ts : List Expr} {pos : Pos} {fa : GE}
structure GX (B : Bs) (X : Cx) (tg : Expr) (gt : GG) : Prop where
  run : ∃ t, PG X tg t ∧ ∀ d v σ s F H (Qd : List SV → Prop) (Q : L2.St → Hp → Prop), Rel B X.kn σ s F H → Rep X.kn F v d → gt d σ Qd → (∀ σ' s' F' H', Same F F' → Rel B X.kn σ' s' F' H' → Qd σ' → Q s' H') → t v s H Q
structure GXs (B : Bs) (X : Cx) (ts : List Expr) (n : Nat) (gt : GGs) : Prop where
  run : ∃ u, PGs X ts u ∧ ∀ ds vs σ s F H (Qd : List SV → Prop) (Q : L2.St → Hp → Prop), Rel B X.kn σ s F H → Reps X.kn F vs ds → ds.length = n → gt ds σ Qd → (∀ σ' s' F' H', Same F F' → Rel B X.kn σ' s' F' H' → Qd σ' → Q s' H') → u vs s H Q
def ggItem (k : Nat) (fi : GE) : GG := fun d σ Q => ∃ xs, σ[k]? = some (.ol xs) ∧ fi σ fun di => ∃ i j, di = .int i ∧ ixN xs.length i = some j ∧ Q (σ.set k (.ol (xs.set j d)))
theorem gx_item {k : Nat} {x : Str} {i : Expr} {px pt : Pos} {fi : GE} (hv : PE X (.Name x px) (tVar k)) (hi : BD B X i fi)
    (ha : ∀ v, assign (.Subscript (.Name x px) i pt) X.env v = (do
      let ov ← holding [v] (eval (.Name x px) X.env)
      let iv ← holding [v, ov] (eval i X.env)
      standAt pt
      holding [v, ov, iv] (setItem ov iv v)
      release [v, ov, iv] []) := by intro _; rfl) : GX B X (.Subscript (.Name x px) i pt) (ggItem k fi) :=
  ⟨_, pg_sub hv hi.run set_list ha, fun d v σ s F H Qd Q R r ⟨xs, eo, q⟩ kk => by
    obtain ⟨a, _, s1, _⟩ := R.ownL eo
    exact ⟨.ref a, s1, σ, F, _, R, q, fun d2 ⟨i, j, e2, hj, qn⟩ F2 H2 u g2 dk2 r2 => by
      subst e2
      have R2 := R.grow g2 dk2
      obtain ⟨a', vs, s2, h2, h3, h4, h5, h6⟩ := R2.ownL eo
      rw [s1] at s2
      cases s2
      refine ⟨a, vs, i, j, rfl, r2.int, h2, by rw [h3.length]; exact hj, ?_⟩
      exact kk _ _ F2 _ g2.ff (R2.write eo (.inl ⟨_, rfl⟩) s1 (x := .ol (xs.set j d)) ⟨rfl, _, upd_same, h3.set (r.mono g2.ff) j⟩) qn⟩⟩
theorem gxs_nil : GXs B X [] 0 ggNil := ⟨_, pgs_nil, fun ds vs σ s F H Qd Q R r hl q k => by
  cases ds with
  | nil => cases r with | nil => exact ⟨rfl, k _ _ F H (fun _ _ z => z) R q⟩
  | cons _ _ => cases hl⟩
theorem gxs_cons {n : Nat} {g : GG} {h : GGs} (h1 : GX B X t g) (h2 : GXs B X ts n h) (hs : (assignEach (t :: ts) X.env).map (·.2) = assign t X.env :: (assignEach ts X.env).map (·.2) := by rfl) : GXs B X (t :: ts) (n + 1) (ggCons g h) := by
  obtain ⟨u1, p1, w1⟩ := h1.run
  obtain ⟨u2, p2, w2⟩ := h2.run
  refine ⟨_, pgs_cons p1 p2 hs, fun ds vs σ s F H Qd Q R r hl q k => ?_⟩
  cases r with
  | nil => cases hl
  | cons r1 r2 => exact ⟨_, _, rfl, w1 _ _ _ _ _ _ _ _ R r1 q fun σ' s' F' H' f' R' q' => w2 _ _ _ _ _ _ _ _ R' (r2.mono f') (by simpa using hl) q' fun σ2 s2 F2 H2 f2 => k σ2 s2 F2 H2 (f'.trans f2)⟩
theorem gx_tup {n : Nat} {h : GGs} {kt : Nat} (hc : X.calm = true) (hn : GXs B X ts n h) (hl : (assignEach ts X.env).length = n := by rfl) (hst : (assignEach ts X.env).findIdx? (·.1) = none := by rfl) : GX B X (.Tuple ts kt pos) (ggT n h) := by
  obtain ⟨u, p, w⟩ := hn.run
  refine ⟨_, pg_tup hc p hl hst, fun d v σ s F H Qd Q R r ⟨ds, e, hl, q⟩ k => ?_⟩
  subst e
  cases r with
  | tup h r => exact ⟨_, _, rfl, same_t R.ex h, by rw [r.length]; exact hl, w _ _ _ _ _ _ _ _ R r hl q k⟩
theorem sd_setX {gt : GG} (ht : GX B X t gt) (ha : ED B X e fa) (hs : swapsWithSole [t] e pos.line X.env = pure false := by rfl) (hw : swappedStores [t] e X.env = pure none := by rfl)
    (h1 : (assignEach [t] X.env).map (·.2) = [assign t X.env] := by rfl) : SD B X (.Assign [t] e pos) (gSetG gt fa) := by
  obtain ⟨u, p, w⟩ := ht.run
  exact ⟨ps_imp (ps_asg ha.run p hs hw h1) fun Dn s H ⟨σ, F, E, R, q, k⟩ => ⟨σ, F, _, R, q, fun d qd F' H' v g dk r => w _ _ _ _ _ _ _ _ (R.grow g dk) r qd fun σ' s' F2 H2 f2 R' q' => k.nx _ _ F2 H2 (g.ff.trans f2) R' q'⟩⟩
end ND

/-! ND72: defs with one keyword-only parameter, an int by default: called without it -/
namespace ND
open PySem PySem.Spec L2
open PyProof.Rows (envOfC)
/-- what K holds of the default i of the parameter y of fd -/
def KwI (K : PySem.W.Frag) (x : Str) (st : Stmt) (y : Str) (i : Int) (f : Addr) (fd : FuncData) : Prop := FunD K x x (defArgs st) (defBody st) (defScope st) [] [(y, V.int i)] f fd
@[simp] def gCallW (sp : DSp) (i : Int) (W : WD) (R : Er → Prop) (fs : GA) (σ : List SV) (Q : D → Prop) : Prop := fs σ fun ds => sp W (ds ++ [.int i]) Q R
structure OkW (P : Program) (w : World) (K : PySem.W.Frag) (mg : Str → Option Value) (base : Heap) (T : List (Addr × Str)) (x : Str) (st : Stmt) (k : Nat) (ps : List Str) (y : Str) (i : Int) (sp : DSp) : Prop where
  ex : ∃ f fd, mg x = some (.ref f) ∧ PySem.W.keepIn K (.ref f) = true ∧ KwI K x st y i f fd ∧ FnOk P w K mg base (L2.CX P w) k f fd ps (liftSp ⟨K, mg⟩ T sp)
/-- how the def st binds by position when y lacks -/
abbrev BindsW (x : Str) (st : Stmt) (ps : List Str) (y : Str) (n : Nat) : Prop := ∀ (D : Addr) (doc pm : Value) (an : Option Addr) (cdv ct : Value) (us ks : List Value), us.length = n → ks.length = 1 →
  KwChain D ([y].zip ks) (bindArgs (PySem.W.fnOf x x (defArgs st) (defBody st) (defScope st) .none (.ref D) doc pm an cdv ct) ⟨us, []⟩) (ps.zip (us ++ ks))
section
variable {B : Bs} {X : Cx} {k : Nat} {f : Addr} {fd : FuncData} {ps : List Str} {sp : DSp} {R : Er → Prop} {E : XK} {x y : Str} {i : Int} {st : Stmt} {p pos : Pos} {e : Expr} {es : List Expr} {fs : GA}
theorem la_callW {s : L2.St} {σ : List SV} {F H : Hp} {Qd : D → Prop} {Q : VK} {K : Kn} (hE : FinE B.W K B.F B.H R E) (Rl : Rel B K σ s F H) (q : gCallW sp i B.W.p R fs σ Qd) (kf : Fin B K F H Qd Q) : LA B K fs s H fun vs H1 => liftSp K B.W.T sp (vs ++ [V.int i]) H1 Q E :=
  ⟨σ, F, _, Rl, q, fun ds qds F1 H1 vs g1 d1 r1 => ⟨B.W.p, F1, ds ++ [.int i], Qd, R, g1.fh, d1, r1.append (.cons (.int i) .nil), qds, fun d qd F2 H2 v g2 d2 r2 => kf d qd F2 H2 v (g1.trans g2) d2 r2, hE.more (Rl.base.trans g1)⟩⟩
theorem ed_ow (O : OkW X.prog X.w X.K X.mg X.base B.W.T x st k ps y i sp) {n : Nat} (hn : n + 1 = ps.length) (b : BindsW x st ps y n) (hr : Room k X.A) (hx : Passes (L2.CX X.prog X.w) X E) (hE : FinE B.W X.kn B.F B.H R E) (ha : AD B X (e :: es) fs) (hg : Gl X x := by rfl) (hdb : (x == ("__debug__" : Str)) = false := by decide)
    (he : starEach (e :: es) X.env = (false, eval e X.env) :: starEach es X.env := by rfl) (hpl : (backTo pos (starEach es X.env)).any (·.1) = false := by rfl) : ED B X (.Call (.Name x p) (e :: es) [] pos) (gCallW sp i B.W.p R fs) := by
  obtain ⟨f, fd, hm, hk, F, G⟩ := O.ex
  obtain ⟨us, r, hb⟩ := L2.FunD.binds0 (ps := ps) F n (by simp) (by simpa using hn) fun D doc pm an cdv ct vs ks h1 h2 => b D doc pm an cdv ct vs ks h1 h2
  exact ⟨pe_imp (pe_call G hr hg hm hk hb r hx ha.run hdb he hpl) fun s H Q ⟨σ, F, Qd, Rl, q, kf⟩ => la_callW hE Rl q kf⟩
theorem okw_of {P : Program} {w : World} {K : PySem.W.Frag} {mg : Str → Option Value} {base : Heap} {T : List (Addr × Str)} {D : Addr} {tok : Tok} {oc : Value} {od an : Option Addr} {dc pm cd ct : Value} {sl : Array (Option Value)} (O : OkD P w K mg base T x st k ps sp) (hm : mg x = some (.ref f))
    (l : K.lookup f = some ⟨oc, od, .func (PySem.W.fnOf x x (defArgs st) (defBody st) (defScope st) .none (.ref D) dc pm an cd ct), sl⟩) (c : PySem.W.codeIn K cd x = true) (kp : PySem.W.keepIn K (.ref f) = true) (kw : PySem.W.nsIn K D y = some (some (.int i tok))) : OkW P w K mg base T x st k ps y i sp := by
  obtain ⟨f', fd, hm', F, G⟩ := O.ex
  have e := hm.symm.trans hm'
  cases e
  obtain ⟨oc', od', kV', dc', pm', an', cd', ct', sl', rfl, l', c'⟩ := F.ex
  have e2 := l.symm.trans l'
  cases e2
  exact ⟨f, _, hm, kp, ⟨⟨oc, od, .none, .ref D, dc, pm, an, cd, ct, sl, rfl, l, c, .inl ⟨rfl, rfl⟩, .inr ⟨D, rfl, fun q hq => by
    rcases List.mem_singleton.mp hq with rfl
    exact ⟨_, kw, ⟨tok, rfl⟩⟩⟩⟩, kp⟩, G⟩
end
end ND

/-! ND73: heights of bars -/
namespace ND
open PySem PySem.Spec L2
def hA (x y : Int) : Int := 4 * x - 2 * y - 1
def hB (x y : Int) : Int := 2 * x + 4 * y - 3
/-- the bar (x, y) beside the height (u + v g) / w -/
def cHt (u v w x y : Int) : Int := psg (hA x y * w - 4 * u) (hB x y * w - 4 * v)
theorem Nn.k {a b k : Int} (h : Nn a b) (hk : 1 ≤ k) : Nn (k * a) (k * b) := by
  rcases h with h | ⟨rfl, rfl⟩
  · exact .inl (by rw [psg_scale hk]; exact h)
  · exact .inr ⟨Int.mul_zero _, Int.mul_zero _⟩
theorem Nn.to {a b c d : Int} (h : Nn a b) (e1 : c = a) (e2 : d = b) : Nn c d := by
  subst e1 e2
  exact h
/-- times 10 g - 10, times 6 g - 8 -/
theorem Nn.ten {A B w : Int} (h : Nn A B) (hw : 1 ≤ w) : Nn (w * (10 * (B - A))) (w * (10 * A)) := (h.l.k (k := 10) (by decide)).k hw
theorem Nn.six {A B w : Int} (h : Nn A B) (hw : 1 ≤ w) : Nn (w * (6 * B - 8 * A)) (w * (6 * A - 2 * B)) :=
  (((h.l.add h.l.l.l).k (k := 2) (by decide)).to (by omega) (by omega)).k hw
section
variable {a b : Int → Int} {d : Int} {s : List Int} {j : Int}
theorem barX_next (F : Fl a b d s) (j0 : 0 ≤ j) (j4 : j ≤ 4) (n : Int) : (barX a b d s j (n + 1) = barX a b d s j n + 1 ∧ 0 < phS a b d s j (barX a b d s j n) (n - barX a b d s j n) 0 0) ∨ (barX a b d s j (n + 1) = barX a b d s j n ∧ ¬ 0 < phS a b d s j (barX a b d s j n) (n - barX a b d s j n) 0 0) := by
  have h := bar_has F j0 j4 n
  have h1 := bar_has F j0 j4 (n + 1)
  obtain ⟨n1, n2⟩ := next_has F j0 j4 h
  by_cases c : 0 < phS a b d s j (barX a b d s j n) (n - barX a b d s j n) 0 0
  · exact .inl ⟨bar_uniq F j0 j4 h1 (n1 c) (by omega), c⟩
  · exact .inr ⟨bar_uniq F j0 j4 h1 (n2 c) (by omega), c⟩
/-- the bar with number n beside a height -/
def cHn (a b : Int → Int) (d : Int) (s : List Int) (j u v w n : Int) : Int := cHt u v w (barX a b d s j n) (n - barX a b d s j n)
theorem ht_up {u v w x y : Int} (hw : 1 ≤ w) (h : 0 ≤ cHt u v w x y) : cHt u v w (x + 1) y = 1 ∧ cHt u v w x (y + 1) = 1 := by
  unfold cHt hA hB at *
  have n := psg_nn.mp h
  refine ⟨?_, ?_⟩
  · have k := pos_k (u := 4) (v := 2) (X := 4 * w) (Y := 2 * w) hw (by decide) rfl rfl
    have := pos_nn k n
    rw [← this]
    congr 1 <;> grind
  · have k := pos_k (u := -2) (v := 4) (X := -2 * w) (Y := 4 * w) hw (by decide) rfl rfl
    have := pos_nn k n
    rw [← this]
    congr 1 <;> grind
theorem hn_up (F : Fl a b d s) (j0 : 0 ≤ j) (j4 : j ≤ 4) {u v w n : Int} (hw : 1 ≤ w) (h : 0 ≤ cHn a b d s j u v w n) : cHn a b d s j u v w (n + 1) = 1 := by
  unfold cHn at *
  obtain ⟨h1, h2⟩ := ht_up hw h
  rcases barX_next F j0 j4 n with ⟨e, _⟩ | ⟨e, _⟩
  · rw [e, show n + 1 - (barX a b d s j n + 1) = n - barX a b d s j n by omega]
    exact h1
  · rw [e, show n + 1 - barX a b d s j n = n - barX a b d s j n + 1 by omega]
    exact h2
theorem hn_ups (F : Fl a b d s) (j0 : 0 ≤ j) (j4 : j ≤ 4) {u v w n : Int} (hw : 1 ≤ w) (h : 0 ≤ cHn a b d s j u v w n) : ∀ k : Nat, 0 < k → cHn a b d s j u v w (n + k) = 1
  | 0, z => absurd z (by decide)
  | 1, _ => hn_up F j0 j4 hw h
  | k + 2, _ => by
    have ih := hn_ups F j0 j4 hw h (k + 1) (by omega)
    have := hn_up F j0 j4 hw (u := u) (v := v) (n := n + ((k + 1 : Nat) : Int)) (by rw [ih]; decide)
    rw [show n + ((k + 2 : Nat) : Int) = n + ((k + 1 : Nat) : Int) + 1 by push_cast; omega]
    exact this
/-- the law's first guess -/
def gsX (a b : Int → Int) (d j u v w : Int) : Int := flr (4 * u * d + w * (3 * d - 4 * b j + 2 * a j)) (4 * v * d - w * (d + 4 * a j + 2 * b j)) (10 * d * w)
def gsG (a b : Int → Int) (d j u v w : Int) : Int := flr (a j - d * gsX a b d j u v w) (b j + d * gsX a b d j u v w) d
theorem has_nn (F : Fl a b d s) (j0 : 0 ≤ j) (j4 : j ≤ 4) {x y : Int} (h : hasR a b d s j x y = true) : Nn ((x + y) * d - a j - d) (-x * d - b j + d) ∧ Nn (d - ((x + y) * d - a j)) (-(-x * d - b j)) := by
  obtain ⟨h1, h2⟩ := (has_iff F j0 j4).mp h
  have eA : bpA a d j x y 1 = (x + y) * d - a j - d := by unfold bpA; omega
  have eB : bpB b d j x (-1) = -x * d - b j + d := by unfold bpB; omega
  have eB0 : bpB b d j x 0 = -x * d - b j := by unfold bpB; omega
  constructor
  · rcases ph_up h1 with z | ⟨z1, z2, _⟩
    · exact .inl (by rw [← eA, ← eB]; exact z)
    · exact .inr ⟨by rw [← eA]; exact z1, by rw [← eB]; exact z2⟩
  · rcases ph_dn h2 with z | ⟨z1, z2, _⟩
    · rw [eA, eB0] at z
      exact .inl (by rw [← z]; congr 1; omega)
    · rw [eA] at z1
      rw [eB0] at z2
      exact .inr ⟨by omega, by omega⟩
theorem guess (F : Fl a b d s) (j0 : 0 ≤ j) (j4 : j ≤ 4) {u v w : Int} (hw : 1 ≤ w) : cHn a b d s j u v w (gsX a b d j u v w + gsG a b d j u v w - 3) < 0 ∧ cHn a b d s j u v w (gsX a b d j u v w + gsG a b d j u v w + 4) = 1 := by
  have d1 := F.d1
  have dw : 1 ≤ d * w := by
    have := Int.mul_le_mul d1 hw (by decide) (by omega)
    omega
  have dw10 : 1 ≤ 10 * d * w := by
    rw [Int.mul_assoc]
    omega
  obtain ⟨p3, p4⟩ := flr_ok (a := 4 * u * d + w * (3 * d - 4 * b j + 2 * a j)) (b := 4 * v * d - w * (d + 4 * a j + 2 * b j)) dw10
  have p3 : Nn _ _ := psg_nn.mp p3
  have p4 := psg_np.mp p4
  rw [show flr (4 * u * d + w * (3 * d - 4 * b j + 2 * a j)) (4 * v * d - w * (d + 4 * a j + 2 * b j)) (10 * d * w) = gsX a b d j u v w from rfl] at p3 p4
  obtain ⟨p5, p6⟩ := flr_ok (a := a j - d * gsX a b d j u v w) (b := b j + d * gsX a b d j u v w) d1
  have p5 : Nn _ _ := psg_nn.mp p5
  have p6 := psg_np.mp p6
  rw [show flr (a j - d * gsX a b d j u v w) (b j + d * gsX a b d j u v w) d = gsG a b d j u v w from rfl] at p5 p6
  generalize gsX a b d j u v w = x0 at *
  generalize gsG a b d j u v w = G at *
  have h1 := (has_nn F j0 j4 (bar_has F j0 j4 (x0 + G - 3))).1
  have h2 := (has_nn F j0 j4 (bar_has F j0 j4 (x0 + G + 4))).2
  refine ⟨?_, ?_⟩
  · unfold cHn cHt
    generalize barX a b d s j (x0 + G - 3) = x at *
    have c := pos_k (u := -46) (v := 42) (X := -46 * (d * w)) (Y := 42 * (d * w)) dw (by decide) rfl rfl
    have t := pos_nn c (p3.add ((p5.ten hw).add (h1.six hw)))
    rw [psg_np, ← psg_scale d1]
    rw [← t]
    unfold hA hB
    congr 1
    · grind
    · grind
  · unfold cHn cHt
    generalize barX a b d s j (x0 + G + 4) = x at *
    have c := pos_k (u := -30) (v := 20) (X := -30 * (d * w)) (Y := 20 * (d * w)) dw (by decide) rfl rfl
    have p4 : Nn _ _ := .inl p4
    have p6 : Nn _ _ := .inl p6
    have t := pos_nn c (p4.add ((p6.ten hw).add (h2.six hw)))
    rw [← psg_scale d1]
    rw [← t]
    unfold hA hB
    congr 1
    · grind
    · grind
/-- the last bar that is not above a height -/
theorem ht_ex (F : Fl a b d s) (j0 : 0 ≤ j) (j4 : j ≤ 4) {u v w : Int} (hw : 1 ≤ w) : ∃ n0, gsX a b d j u v w + gsG a b d j u v w - 3 ≤ n0 ∧ n0 < gsX a b d j u v w + gsG a b d j u v w + 4 ∧ ∀ n, (0 < cHn a b d s j u v w n ↔ n0 < n) := by
  obtain ⟨g1, g2⟩ := guess F j0 j4 hw (u := u) (v := v)
  generalize gsX a b d j u v w + gsG a b d j u v w = N at *
  have find : ∀ k : Nat, (∀ i : Nat, i ≤ k → ¬ 0 < cHn a b d s j u v w (N - 3 + i)) ∨ ∃ i : Nat, i < k ∧ ¬ 0 < cHn a b d s j u v w (N - 3 + i) ∧ 0 < cHn a b d s j u v w (N - 3 + i + 1) := fun k => by
    induction k with
    | zero =>
      left
      intro i hi
      have : i = 0 := by omega
      subst this
      rw [show N - 3 + ((0 : Nat) : Int) = N - 3 by omega]
      omega
    | succ k ih =>
      rcases ih with h | ⟨i, h1, h2, h3⟩
      · by_cases c : 0 < cHn a b d s j u v w (N - 3 + k + 1)
        · exact .inr ⟨k, by omega, h k (Nat.le_refl _), c⟩
        · left
          intro i hi
          by_cases e : i ≤ k
          · exact h i e
          · have : i = k + 1 := by omega
            subst this
            rw [show N - 3 + ((k + 1 : Nat) : Int) = N - 3 + k + 1 by push_cast; omega]
            exact c
      · exact .inr ⟨i, by omega, h2, h3⟩
  rcases find 7 with h | ⟨i, h1, h2, h3⟩
  · have := h 7 (Nat.le_refl _)
    rw [show N - 3 + ((7 : Nat) : Int) = N + 4 by omega, g2] at this
    exact absurd (by decide) this
  · refine ⟨N - 3 + i, by omega, by omega, fun n => ⟨fun z => ?_, fun z => ?_⟩⟩
    · rcases Int.lt_or_le (N - 3 + i) n with e | e
      · exact e
      · exfalso
        obtain ⟨k, hk⟩ : ∃ k : Nat, N - 3 + i = n + k := ⟨(N - 3 + i - n).toNat, by omega⟩
        cases k with
        | zero =>
          rw [show N - 3 + (i : Int) = n by omega] at h2
          exact h2 z
        | succ k =>
          have := hn_ups F j0 j4 hw (show 0 ≤ cHn a b d s j u v w n by omega) (k + 1) (by omega)
          rw [← hk] at this
          omega
    · obtain ⟨k, hk⟩ : ∃ k : Nat, n = N - 3 + i + 1 + k := ⟨(n - (N - 3 + i + 1)).toNat, by omega⟩
      cases k with
      | zero =>
        rw [show n = N - 3 + i + 1 by omega]
        exact h3
      | succ k =>
        have := hn_ups F j0 j4 hw (show 0 ≤ cHn a b d s j u v w (N - 3 + i + 1) by omega) (k + 1) (by omega)
        rw [hk, this]
        decide
end
end ND

/-! ND74: range(i, j) with any integers -/
namespace ND
open PySem PySem.Spec L2
open PyProof.Rows (envOfC boot_range)
theorem turn_long {P : Program} {w : World} {K : PySem.W.Frag} {tg : Expr} (it : Addr) (lo : Int) (n : Nat) : Turn P w K tg (Itr lo n) [it] it (fun i h => IsLongIter h it (lo + (i : Nat) * 1) ((n : Int) - (i : Nat)) 1) where
  mem := by simp
  obj := fun i h st b hb => by
    have e : b = it := by simpa using hb
    subst e
    exact ⟨_, st, fun v z => by
      have z' : Data.fields _ = Data.cell v := z
      cases z'⟩
  keep := fun i h h' st k => k it (by simp) _ st
  item := by
    intro X hP hw hK hc i pins s σ H E I hf st hg
    subst hP hw hK
    obtain ⟨f0, f1, f2, f3, f4, f5⟩ := hf it (by simp)
    have W := Walks.longrange (prog := X.prog) (w := X.w) (I.ok.hd hc) it lo 1 n
    refine W.item i s _ _ hg st fun v h' tk hv st' kk => ?_
    obtain ⟨t, rfl⟩ := hv
    have I1 : Inv X pins σ H { s with heap := h', toks := tk } := I.turned (fun b o hb e => kk b o (by simpa using hb) e) f0 f1 f3 f4 f5
    refine ⟨_, rfl, go_of (s := { s with heap := h', toks := tk }) (n := "longrange_iterator") st' rfl rfl (by decide) ⟨.int (lo + i), H, I1, ⟨t, ?_⟩, ⟨rfl, rfl⟩, st', fun b hb => (hf b hb).1⟩⟩
    rw [Int.mul_one]
  done := by
    intro X hP hw hK hc i pins s σ H E I hf st hg
    subst hP hw hK
    obtain ⟨f0, f1, f2, f3, f4, f5⟩ := hf it (by simp)
    exact wpAny_pyNext_long_end (I.ok.hd hc) st (by have : n ≤ i := hg; omega) fun h' eb => ⟨rfl, I.turned (t' := s.toks) (fun b o hb e => eb b o hb e) f0 f1 f3 f4 f5⟩
  self := fun _ _ _ _ _ st h => wpAny_pyIter_longiter st h
theorem range_any {X : Cx} {tg : Expr} {pins : List (Addr × Obj)} {σ : L2.St} {H : Hp} {s : Shared} {R : It → Hp → Prop} {E : Value → Shared → Prop} {lo hi : Int} {t u v : Tok} {tk : Nat} (I : Inv X pins σ H s)
    (q : R (Itr lo (hi - lo).toNat) H) : wpAny (model X.prog X.w) X.A (pyIter (.ref s.heap.objs.size)) (PIE X pins σ tg R) E { s with heap := s.heap.push { cls := .type "range", data := .fields #[.int lo t, .int hi u, .int 1 v] }, toks := tk } := by
  have e2 : (((hi - lo).toNat : Nat) : Int) - ((0 : Nat) : Int) = Builtin.Range.rangeSize lo hi 1 := by rw [rangeSize_one]; split <;> omega
  have e1 : lo + ((0 : Nat) : Int) * 1 = lo := by simp
  have I1 : Inv X pins σ H { s with heap := s.heap.push { cls := .type "range", data := .fields #[.int lo t, .int hi u, .int 1 v] }, toks := tk } := I.kept fun b o e => Heap.get?_push_of_some _ e
  cases hs : Builtin.Range.small lo hi 1
  · refine wpAny_pyIter_longrange (IsRange.new ..) hs ?_
    refine pi_one (tk := tk) I1 _ (turn_long _ lo (hi - lo).toNat) ?_ q
    show IsLongIter _ _ (lo + ((0 : Nat) : Int) * 1) ((((hi - lo).toNat : Nat) : Int) - ((0 : Nat) : Int)) 1
    rw [e1, e2]
    exact Heap.get?_push_size _ rfl
  · refine wpAny_pyIter_range (IsRange.new ..) hs ?_
    refine pi_one (tk := tk) I1 _ (turn_range _ lo (hi - lo).toNat) ?_ q
    show IsRangeIter _ _ (lo + ((0 : Nat) : Int) * 1) ((((hi - lo).toNat : Nat) : Int) - ((0 : Nat) : Int)) 1
    rw [e1, e2]
    exact Heap.get?_push_size _ rfl
def iRng2B (ta : TA) : TI := fun σ H R => ta σ H fun vs H1 => ∃ i j : Int, vs = [.int i, .int j] ∧ R (Itr i (j - i).toNat) H1
variable {B : Bs} {X : Cx} {e a b : Expr} {tg : Expr}
theorem pi_range2B {a b : Expr} {ta : TA} {p pos : Pos} (hg : Gl X "range") (hm : X.mg "range" = none) (ha : PA X [a, b] ta) (hs : starEach [a, b] X.env = [(false, eval a X.env), (false, eval b X.env)] := by rfl) (hs2 : starEach [b] X.env = [(false, eval b X.env)] := by rfl) :
    PI X tg (.Call (.Name "range" p) [a, b] [] pos) (iRng2B ta) := by
  refine ⟨fun pins s σ H R I h => ?_⟩
  refine PyProof.Rows.Call_ (ld_blt I hg hm boot_range (PyProof.Rows.callWith_type1 (thn (ha.run pos pins s σ H _ I h) fun us s1 ⟨vs, H1, I1, r1, q1⟩ => ?_) (by rw [hs, hs2]) (by rw [hs2]; rfl)))
  obtain ⟨i, j, e, q⟩ := q1
  subst e
  cases r1 with
  | cons r rr =>
    cases rr with
    | cons r' rr =>
      cases rr
      obtain ⟨t, rfl⟩ := r
      obtain ⟨t', rfl⟩ := r'
      exact call_range_2 (range_any I1 q)
def rng2B (ds : List D) (Q : List D → Prop) : Prop := ∃ i j, ds = [.int i, .int j] ∧ Q (intsFrom i (j - i).toNat)
@[simp] def gRng2B (fs : GA) (σ : List SV) (Q : List D → Prop) : Prop := fs σ fun ds => rng2B ds Q
theorem pid_rng2B {tg : Expr} {p : Pos} {fs : GA} (hg : Gl X "range") (hm : X.mg "range" = none) (ha : AD B X [a, b] fs) (hs : starEach [a, b] X.env = [(false, eval a X.env), (false, eval b X.env)] := by rfl) (hs2 : starEach [b] X.env = [(false, eval b X.env)] := by rfl) : PID B X tg (.Call (.Name "range" p) [a, b] [] pos) (gRng2B fs) :=
  ⟨pi_imp (pi_range2B hg hm ha.run hs hs2) fun s H R ⟨σ, F, Qd, Rl, q, k⟩ => ⟨σ, F, _, Rl, q, fun ds ⟨i, j, e, qd⟩ F1 H1 vs g1 d1 r1 => by
    subst e
    cases r1 with
    | cons r t =>
      cases r
      cases t with
      | cons r t =>
        cases r
        cases t
        exact ⟨i, j, rfl, k _ qd F1 H1 _ g1 d1 itOk_range⟩⟩⟩
end ND
namespace K65
open PySem PySem.Spec L2 ND
open PyProof.Rows (envOfC)
def top (i : Nat) : Stmt := PySem.Challenge.pw_nevertwice_k65_bars_by_height_and_their.main.body.getD i (.Pass ⟨0, 0, 0, 0⟩)
def methS (i j : Nat) : Stmt := match top i with
  | .ClassDef _ _ _ b _ _ _ _ _ _ _ => b.getD j (.Pass ⟨0, 0, 0, 0⟩)
  | s => s
def knownO (n : Str) : Bool := n == "Floor"
def fldO (n f : Str) : Bool := (n == "Floor" && f == "all_keys") || (n == "Floor" && f == "side")
@[simp] theorem knownO_Floor : knownO "Floor" = true := by decide +kernel
@[simp] theorem fldO_Floor_all_keys : fldO "Floor" "all_keys" = true := by decide +kernel
@[simp] theorem fldO_Floor_side : fldO "Floor" "side" = true := by decide +kernel
@[simp] theorem fn_Floor_all_keys_all_keys : ((Str.ofString "all_keys") == (Str.ofString "all_keys")) = true := by decide +kernel
@[simp] theorem fn_Floor_all_keys_side : ((Str.ofString "all_keys") == (Str.ofString "side")) = false := by decide +kernel
@[simp] theorem fn_Floor_side_all_keys : ((Str.ofString "side") == (Str.ofString "all_keys")) = false := by decide +kernel
@[simp] theorem fn_Floor_side_side : ((Str.ofString "side") == (Str.ofString "side")) = true := by decide +kernel
theorem sc_is_integer : FnScope ["thing"] ["thing"] (defScope (top 2)) := ⟨rfl, rfl, rfl, by decide +kernel, rfl, by decide +kernel, by decide +kernel⟩
theorem bp_is_integer : BindsP "is_integer" (top 2) ["thing"] := fun _ _ _ _ _ _ us hl => match us, hl with | [_], _ => rfl
theorem sc_is_number : FnScope ["thing"] ["thing"] (defScope (top 3)) := ⟨rfl, rfl, rfl, by decide +kernel, rfl, by decide +kernel, by decide +kernel⟩
theorem bp_is_number : BindsP "is_number" (top 3) ["thing"] := fun _ _ _ _ _ _ us hl => match us, hl with | [_], _ => rfl
theorem sc_normal : FnScope ["a", "b", "d", "divisor"] ["a", "b", "d"] (defScope (top 4)) := ⟨rfl, rfl, rfl, by decide +kernel, rfl, by decide +kernel, by decide +kernel⟩
theorem bp_normal : BindsP "normal" (top 4) ["a", "b", "d"] := fun _ _ _ _ _ _ us hl => match us, hl with | [_, _, _], _ => rfl
theorem sc_pair_sign : FnScope ["a", "b", "x", "is_x_greater"] ["a", "b"] (defScope (top 5)) := ⟨rfl, rfl, rfl, by decide +kernel, rfl, by decide +kernel, by decide +kernel⟩
theorem bp_pair_sign : BindsP "pair_sign" (top 5) ["a", "b"] := fun _ _ _ _ _ _ us hl => match us, hl with | [_, _], _ => rfl
theorem sc_compared : FnScope ["one", "other"] ["one", "other"] (defScope (top 6)) := ⟨rfl, rfl, rfl, by decide +kernel, rfl, by decide +kernel, by decide +kernel⟩
theorem bp_compared : BindsP "compared" (top 6) ["one", "other"] := fun _ _ _ _ _ _ us hl => match us, hl with | [_, _], _ => rfl
theorem sc_negative : FnScope ["one"] ["one"] (defScope (top 7)) := ⟨rfl, rfl, rfl, by decide +kernel, rfl, by decide +kernel, by decide +kernel⟩
theorem bp_negative : BindsP "negative" (top 7) ["one"] := fun _ _ _ _ _ _ us hl => match us, hl with | [_], _ => rfl
theorem sc_added : FnScope ["one", "other", "d"] ["one", "other"] (defScope (top 8)) := ⟨rfl, rfl, rfl, by decide +kernel, rfl, by decide +kernel, by decide +kernel⟩
theorem bp_added : BindsP "added" (top 8) ["one", "other"] := fun _ _ _ _ _ _ us hl => match us, hl with | [_, _], _ => rfl
theorem sc_taken : FnScope ["one", "other"] ["one", "other"] (defScope (top 9)) := ⟨rfl, rfl, rfl, by decide +kernel, rfl, by decide +kernel, by decide +kernel⟩
theorem bp_taken : BindsP "taken" (top 9) ["one", "other"] := fun _ _ _ _ _ _ us hl => match us, hl with | [_, _], _ => rfl
theorem sc_multiplied : FnScope ["one", "other", "a", "b", "c", "e"] ["one", "other"] (defScope (top 10)) := ⟨rfl, rfl, rfl, by decide +kernel, rfl, by decide +kernel, by decide +kernel⟩
theorem bp_multiplied : BindsP "multiplied" (top 10) ["one", "other"] := fun _ _ _ _ _ _ us hl => match us, hl with | [_, _], _ => rfl
theorem sc_times_g : FnScope ["one"] ["one"] (defScope (top 11)) := ⟨rfl, rfl, rfl, by decide +kernel, rfl, by decide +kernel, by decide +kernel⟩
theorem bp_times_g : BindsP "times_g" (top 11) ["one"] := fun _ _ _ _ _ _ us hl => match us, hl with | [_], _ => rfl
theorem sc_times_less : FnScope ["one"] ["one"] (defScope (top 12)) := ⟨rfl, rfl, rfl, by decide +kernel, rfl, by decide +kernel, by decide +kernel⟩
theorem bp_times_less : BindsP "times_less" (top 12) ["one"] := fun _ _ _ _ _ _ us hl => match us, hl with | [_], _ => rfl
theorem sc_divided : FnScope ["one", "other", "c", "e", "top", "norm"] ["one", "other"] (defScope (top 13)) := ⟨rfl, rfl, rfl, by decide +kernel, rfl, by decide +kernel, by decide +kernel⟩
theorem bp_divided : BindsP "divided" (top 13) ["one", "other"] := fun _ _ _ _ _ _ us hl => match us, hl with | [_, _], _ => rfl
theorem sc_is_whole_number : FnScope ["one"] ["one"] (defScope (top 14)) := ⟨rfl, rfl, rfl, by decide +kernel, rfl, by decide +kernel, by decide +kernel⟩
theorem bp_is_whole_number : BindsP "is_whole_number" (top 14) ["one"] := fun _ _ _ _ _ _ us hl => match us, hl with | [_], _ => rfl
theorem sc_floor_integer : FnScope ["one", "x", "b", "m", "root"] ["one"] (defScope (top 15)) := ⟨rfl, rfl, rfl, by decide +kernel, rfl, by decide +kernel, by decide +kernel⟩
theorem bp_floor_integer : BindsP "floor_integer" (top 15) ["one"] := fun _ _ _ _ _ _ us hl => match us, hl with | [_], _ => rfl
theorem sc_is_direction : FnScope ["thing"] ["thing"] (defScope (top 17)) := ⟨rfl, rfl, rfl, by decide +kernel, rfl, by decide +kernel, by decide +kernel⟩
theorem bp_is_direction : BindsP "is_direction" (top 17) ["thing"] := fun _ _ _ _ _ _ us hl => match us, hl with | [_], _ => rfl
theorem sc_in_order : FnScope ["r", "s"] ["r", "s"] (defScope (top 18)) := ⟨rfl, rfl, rfl, by decide +kernel, rfl, by decide +kernel, by decide +kernel⟩
theorem bp_in_order : BindsP "in_order" (top 18) ["r", "s"] := fun _ _ _ _ _ _ us hl => match us, hl with | [_, _], _ => rfl
theorem sc_raw_phase : FnScope ["floor", "bar", "j", "x", "y", "a", "b", "d"] ["floor", "bar"] (defScope (top 20)) := ⟨rfl, rfl, rfl, by decide +kernel, rfl, by decide +kernel, by decide +kernel⟩
theorem bp_raw_phase : BindsP "raw_phase" (top 20) ["floor", "bar"] := fun _ _ _ _ _ _ us hl => match us, hl with | [_, _], _ => rfl
theorem sc_phase_sign : FnScope ["floor", "bar", "a", "b", "top", "more", "d", "found"] ["floor", "bar", "a", "b"] (defScope (top 21)) := ⟨rfl, rfl, rfl, by decide +kernel, rfl, by decide +kernel, by decide +kernel⟩
theorem bp_phase_sign : BindsP "phase_sign" (top 21) ["floor", "bar", "a", "b"] := fun _ _ _ _ _ _ us hl => match us, hl with | [_, _, _, _], _ => rfl
theorem sc_floor_has_bar : FnScope ["floor", "bar"] ["floor", "bar"] (defScope (top 22)) := ⟨rfl, rfl, rfl, by decide +kernel, rfl, by decide +kernel, by decide +kernel⟩
theorem bp_floor_has_bar : BindsP "floor_has_bar" (top 22) ["floor", "bar"] := fun _ _ _ _ _ _ us hl => match us, hl with | [_, _], _ => rfl
theorem sc_is_long : FnScope ["floor", "bar"] ["floor", "bar"] (defScope (top 23)) := ⟨rfl, rfl, rfl, by decide +kernel, rfl, by decide +kernel, by decide +kernel⟩
theorem bp_is_long : BindsP "is_long" (top 23) ["floor", "bar"] := fun _ _ _ _ _ _ us hl => match us, hl with | [_, _], _ => rfl
theorem sc_next_bar : FnScope ["floor", "bar", "j", "x", "y"] ["floor", "bar"] (defScope (top 24)) := ⟨rfl, rfl, rfl, by decide +kernel, rfl, by decide +kernel, by decide +kernel⟩
theorem bp_next_bar : BindsP "next_bar" (top 24) ["floor", "bar"] := fun _ _ _ _ _ _ us hl => match us, hl with | [_, _], _ => rfl
theorem sc_bar_by : FnScope ["floor", "j", "number", "a", "b", "d", "x", "found"] ["floor", "j", "number"] (defScope (top 25)) := ⟨rfl, rfl, rfl, by decide +kernel, rfl, by decide +kernel, by decide +kernel⟩
theorem bp_bar_by : BindsP "bar_by" (top 25) ["floor", "j", "number"] := fun _ _ _ _ _ _ us hl => match us, hl with | [_, _, _], _ => rfl
theorem sc_height_by : FnScope ["bar", "x", "y"] ["bar"] (defScope (top 26)) := ⟨rfl, rfl, rfl, by decide +kernel, rfl, by decide +kernel, by decide +kernel⟩
theorem bp_height_by : BindsP "height_by" (top 26) ["bar"] := fun _ _ _ _ _ _ us hl => match us, hl with | [_], _ => rfl
theorem sc_bar_below_by : FnScope ["floor", "j", "height", "key", "top", "x", "found", "ahead"] ["floor", "j", "height"] (defScope (top 27)) := ⟨rfl, rfl, rfl, by decide +kernel, rfl, by decide +kernel, by decide +kernel⟩
theorem bp_bar_below_by : BindsP "bar_below_by" (top 27) ["floor", "j", "height"] := fun _ _ _ _ _ _ us hl => match us, hl with | [_, _, _], _ => rfl
theorem sc_point_with : FnScope ["j", "one", "i", "other", "first", "second", "found", "_", "middle", "behind", "part"] ["j", "one", "i", "other"] (defScope (top 28)) := ⟨rfl, rfl, rfl, by decide +kernel, rfl, by decide +kernel, by decide +kernel⟩
theorem bp_point_with : BindsP "point_with" (top 28) ["j", "one", "i", "other"] := fun _ _ _ _ _ _ us hl => match us, hl with | [_, _, _, _], _ => rfl
theorem sc_keys_from : FnScope ["one", "other", "found", "r"] ["one", "other"] (defScope (top 48)) := ⟨rfl, rfl, rfl, by decide +kernel, rfl, by decide +kernel, by decide +kernel⟩
theorem bp_keys_from : BindsP "keys_from" (top 48) ["one", "other"] := fun _ _ _ _ _ _ us hl => match us, hl with | [_, _], _ => rfl
theorem sc_whole_directions : FnScope ["keys", "r"] ["keys"] (defScope (top 49)) := ⟨rfl, rfl, rfl, by decide +kernel, rfl, by decide +kernel, by decide +kernel⟩
theorem bp_whole_directions : BindsP "whole_directions" (top 49) ["keys"] := fun _ _ _ _ _ _ us hl => match us, hl with | [_], _ => rfl
theorem sc_sides_of : FnScope ["keys", "directions", "found", "turns", "r", "one", "j", "part"] ["keys"] (defScope (top 50)) := ⟨rfl, rfl, rfl, by decide +kernel, rfl, by decide +kernel, by decide +kernel⟩
theorem bp_sides_of : BindsP "sides_of" (top 50) ["keys"] := fun _ _ _ _ _ _ us hl => match us, hl with | [_], _ => rfl
theorem sc_is_side : FnScope ["keys", "thing", "part"] ["keys", "thing"] (defScope (top 51)) := ⟨rfl, rfl, rfl, by decide +kernel, rfl, by decide +kernel, by decide +kernel⟩
theorem bp_is_side : BindsP "is_side" (top 51) ["keys", "thing"] := fun _ _ _ _ _ _ us hl => match us, hl with | [_, _], _ => rfl
theorem sc_Floor : FnScope ["self", "one", "other", "side", "number", "keys"] ["self", "one", "other", "side"] (defScope (methS 52 0)) := ⟨rfl, rfl, rfl, by decide +kernel, rfl, by decide +kernel, by decide +kernel⟩
-- INIT Floor
theorem sc_is_bar : FnScope ["thing"] ["thing"] (defScope (top 56)) := ⟨rfl, rfl, rfl, by decide +kernel, rfl, by decide +kernel, by decide +kernel⟩
theorem bp_is_bar : BindsP "is_bar" (top 56) ["thing"] := fun _ _ _ _ _ _ us hl => match us, hl with | [_], _ => rfl
theorem sc_need_bar : FnScope ["bar"] ["bar"] (defScope (top 57)) := ⟨rfl, rfl, rfl, by decide +kernel, rfl, by decide +kernel, by decide +kernel⟩
theorem bp_need_bar : BindsP "need_bar" (top 57) ["bar"] := fun _ _ _ _ _ _ us hl => match us, hl with | [_], _ => rfl
theorem sc_need_direction : FnScope ["direction"] ["direction"] (defScope (top 58)) := ⟨rfl, rfl, rfl, by decide +kernel, rfl, by decide +kernel, by decide +kernel⟩
theorem bp_need_direction : BindsP "need_direction" (top 58) ["direction"] := fun _ _ _ _ _ _ us hl => match us, hl with | [_], _ => rfl
theorem sc_has_bar : FnScope ["floor", "thing"] ["floor", "thing"] (defScope (top 59)) := ⟨rfl, rfl, rfl, by decide +kernel, rfl, by decide +kernel, by decide +kernel⟩
theorem bp_has_bar : BindsP "has_bar" (top 59) ["floor", "thing"] := fun _ _ _ _ _ _ us hl => match us, hl with | [_, _], _ => rfl
theorem sc_phase_of : FnScope ["floor", "bar", "a", "b", "d"] ["floor", "bar"] (defScope (top 60)) := ⟨rfl, rfl, rfl, by decide +kernel, rfl, by decide +kernel, by decide +kernel⟩
theorem bp_phase_of : BindsP "phase_of" (top 60) ["floor", "bar"] := fun _ _ _ _ _ _ us hl => match us, hl with | [_, _], _ => rfl
theorem sc_height_of : FnScope ["bar"] ["bar"] (defScope (top 61)) := ⟨rfl, rfl, rfl, by decide +kernel, rfl, by decide +kernel, by decide +kernel⟩
theorem bp_height_of : BindsP "height_of" (top 61) ["bar"] := fun _ _ _ _ _ _ us hl => match us, hl with | [_], _ => rfl
theorem sc_bar_below : FnScope ["floor", "direction", "height"] ["floor", "direction", "height"] (defScope (top 62)) := ⟨rfl, rfl, rfl, by decide +kernel, rfl, by decide +kernel, by decide +kernel⟩
theorem bp_bar_below : BindsP "bar_below" (top 62) ["floor", "direction", "height"] := fun _ _ _ _ _ _ us hl => match us, hl with | [_, _, _], _ => rfl
theorem sc_bars_between : FnScope ["floor", "direction", "low", "high", "most", "number", "bar", "found"] ["floor", "direction", "low", "high", "most"] (defScope (top 63)) := ⟨rfl, rfl, rfl, by decide +kernel, rfl, by decide +kernel, by decide +kernel⟩
theorem bw_bars_between : BindsW "bars_between" (top 63) ["floor", "direction", "low", "high", "most"] "most" 4 := fun _ _ _ _ _ _ us ks h1 h2 => match us, ks, h1, h2 with | [_, _, _, _], [_], _, _ => ⟨_, _, _, _, _, _, rfl, rfl, rfl⟩
theorem sc_crossing_of : FnScope ["one", "other"] ["one", "other"] (defScope (top 64)) := ⟨rfl, rfl, rfl, by decide +kernel, rfl, by decide +kernel, by decide +kernel⟩
theorem bp_crossing_of : BindsP "crossing_of" (top 64) ["one", "other"] := fun _ _ _ _ _ _ us hl => match us, hl with | [_, _], _ => rfl
theorem sc_is_point : FnScope ["thing", "j", "part"] ["thing"] (defScope (top 66)) := ⟨rfl, rfl, rfl, by decide +kernel, rfl, by decide +kernel, by decide +kernel⟩
theorem bp_is_point : BindsP "is_point" (top 66) ["thing"] := fun _ _ _ _ _ _ us hl => match us, hl with | [_], _ => rfl
theorem sc__law_deck : FnScope ["_law_script", "_law_mixed", "_law_cell"] ["_law_script"] (defScope (top 68)) := ⟨rfl, rfl, rfl, by decide +kernel, rfl, by decide +kernel, by decide +kernel⟩
theorem bp__law_deck : BindsP "_law_deck" (top 68) ["_law_script"] := fun _ _ _ _ _ _ us hl => match us, hl with | [_], _ => rfl
theorem sc__law_draw : FnScope ["_law_deck_here", "_law_many", "_law_figure", "_law_cell"] ["_law_deck_here", "_law_many"] (defScope (top 69)) := ⟨rfl, rfl, rfl, by decide +kernel, rfl, by decide +kernel, by decide +kernel⟩
theorem bp__law_draw : BindsP "_law_draw" (top 69) ["_law_deck_here", "_law_many"] := fun _ _ _ _ _ _ us hl => match us, hl with | [_, _], _ => rfl
theorem sc__law_pick : FnScope ["_law_deck_here", "_law_some"] ["_law_deck_here", "_law_some"] (defScope (top 70)) := ⟨rfl, rfl, rfl, by decide +kernel, rfl, by decide +kernel, by decide +kernel⟩
theorem bp__law_pick : BindsP "_law_pick" (top 70) ["_law_deck_here", "_law_some"] := fun _ _ _ _ _ _ us hl => match us, hl with | [_, _], _ => rfl
theorem sc__law_number : FnScope ["_law_deck_here", "_law_way", "_law_found", "_law_sign_here", "_law_turn"] ["_law_deck_here"] (defScope (top 71)) := ⟨rfl, rfl, rfl, by decide +kernel, rfl, by decide +kernel, by decide +kernel⟩
theorem bp__law_number : BindsP "_law_number" (top 71) ["_law_deck_here"] := fun _ _ _ _ _ _ us hl => match us, hl with | [_], _ => rfl
theorem sc__law_sign : FnScope ["_law_a", "_law_b", "_law_near"] ["_law_a", "_law_b"] (defScope (top 72)) := ⟨rfl, rfl, rfl, by decide +kernel, rfl, by decide +kernel, by decide +kernel⟩
theorem bp__law_sign : BindsP "_law_sign" (top 72) ["_law_a", "_law_b"] := fun _ _ _ _ _ _ us hl => match us, hl with | [_, _], _ => rfl
theorem sc__law_tie : FnScope ["_law_a", "_law_b", "_law_side", "_law_found"] ["_law_a", "_law_b", "_law_side"] (defScope (top 73)) := ⟨rfl, rfl, rfl, by decide +kernel, rfl, by decide +kernel, by decide +kernel⟩
theorem bp__law_tie : BindsP "_law_tie" (top 73) ["_law_a", "_law_b", "_law_side"] := fun _ _ _ _ _ _ us hl => match us, hl with | [_, _, _], _ => rfl
theorem sc__law_root : FnScope ["_law_n", "_law_found", "_law_turn", "_law_less"] ["_law_n"] (defScope (top 74)) := ⟨rfl, rfl, rfl, by decide +kernel, rfl, by decide +kernel, by decide +kernel⟩
theorem bp__law_root : BindsP "_law_root" (top 74) ["_law_n"] := fun _ _ _ _ _ _ us hl => match us, hl with | [_], _ => rfl
theorem sc__law_under : FnScope ["_law_a", "_law_b", "_law_d", "_law_far"] ["_law_a", "_law_b", "_law_d"] (defScope (top 75)) := ⟨rfl, rfl, rfl, by decide +kernel, rfl, by decide +kernel, by decide +kernel⟩
theorem bp__law_under : BindsP "_law_under" (top 75) ["_law_a", "_law_b", "_law_d"] := fun _ _ _ _ _ _ us hl => match us, hl with | [_, _, _], _ => rfl
theorem sc__law_common : FnScope ["_law_one", "_law_other", "_law_turn"] ["_law_one", "_law_other"] (defScope (top 76)) := ⟨rfl, rfl, rfl, by decide +kernel, rfl, by decide +kernel, by decide +kernel⟩
theorem bp__law_common : BindsP "_law_common" (top 76) ["_law_one", "_law_other"] := fun _ _ _ _ _ _ us hl => match us, hl with | [_, _], _ => rfl
theorem sc__law_golden : FnScope ["_law_a", "_law_b", "_law_d", "_law_common_here"] ["_law_a", "_law_b", "_law_d"] (defScope (top 77)) := ⟨rfl, rfl, rfl, by decide +kernel, rfl, by decide +kernel, by decide +kernel⟩
theorem bp__law_golden : BindsP "_law_golden" (top 77) ["_law_a", "_law_b", "_law_d"] := fun _ _ _ _ _ _ us hl => match us, hl with | [_, _, _], _ => rfl
theorem sc__law_keys : FnScope ["_law_r", "_law_one", "_law_other", "_law_keys_here", "_law_turn", "_law_near", "_law_far"] ["_law_r", "_law_one", "_law_other"] (defScope (top 78)) := ⟨rfl, rfl, rfl, by decide +kernel, rfl, by decide +kernel, by decide +kernel⟩
theorem bp__law_keys : BindsP "_law_keys" (top 78) ["_law_r", "_law_one", "_law_other"] := fun _ _ _ _ _ _ us hl => match us, hl with | [_, _, _], _ => rfl
theorem sc__law_whole : FnScope ["_law_d", "_law_keys_here", "_law_r"] ["_law_d", "_law_keys_here"] (defScope (top 79)) := ⟨rfl, rfl, rfl, by decide +kernel, rfl, by decide +kernel, by decide +kernel⟩
theorem bp__law_whole : BindsP "_law_whole" (top 79) ["_law_d", "_law_keys_here"] := fun _ _ _ _ _ _ us hl => match us, hl with | [_, _], _ => rfl
theorem sc__law_sides : FnScope ["_law_d", "_law_keys_here", "_law_whole_here", "_law_row", "_law_found", "_law_turn", "_law_side", "_law_r", "_law_it"] ["_law_d", "_law_keys_here"] (defScope (top 80)) := ⟨rfl, rfl, rfl, by decide +kernel, rfl, by decide +kernel, by decide +kernel⟩
theorem bp__law_sides : BindsP "_law_sides" (top 80) ["_law_d", "_law_keys_here"] := fun _ _ _ _ _ _ us hl => match us, hl with | [_, _], _ => rfl
theorem sc__law_world : FnScope ["_law_deck_here", "_law_edge", "_law_d", "_law_r", "_law_one", "_law_other", "_law_keys_here"] ["_law_deck_here", "_law_edge"] (defScope (top 81)) := ⟨rfl, rfl, rfl, by decide +kernel, rfl, by decide +kernel, by decide +kernel⟩
theorem bp__law_world : BindsP "_law_world" (top 81) ["_law_deck_here", "_law_edge"] := fun _ _ _ _ _ _ us hl => match us, hl with | [_, _], _ => rfl
theorem sc__law_floor : FnScope ["_law_deck_here", "_law_world_here", "_law_d", "_law_keys_here", "_law_side", "_law_by", "_law_one", "_law_other"] ["_law_deck_here", "_law_world_here"] (defScope (top 82)) := ⟨rfl, rfl, rfl, by decide +kernel, rfl, by decide +kernel, by decide +kernel⟩
theorem bp__law_floor : BindsP "_law_floor" (top 82) ["_law_deck_here", "_law_world_here"] := fun _ _ _ _ _ _ us hl => match us, hl with | [_, _], _ => rfl
theorem sc__law_phase : FnScope ["_law_world_here", "_law_j", "_law_number_here", "_law_x", "_law_d", "_law_keys_here", "_law_side"] ["_law_world_here", "_law_j", "_law_number_here", "_law_x"] (defScope (top 83)) := ⟨rfl, rfl, rfl, by decide +kernel, rfl, by decide +kernel, by decide +kernel⟩
theorem bp__law_phase : BindsP "_law_phase" (top 83) ["_law_world_here", "_law_j", "_law_number_here", "_law_x"] := fun _ _ _ _ _ _ us hl => match us, hl with | [_, _, _, _], _ => rfl
theorem sc__law_bar : FnScope ["_law_world_here", "_law_j", "_law_number_here", "_law_d", "_law_keys_here", "_law_side", "_law_a", "_law_b", "_law_x", "_law_one"] ["_law_world_here", "_law_j", "_law_number_here"] (defScope (top 84)) := ⟨rfl, rfl, rfl, by decide +kernel, rfl, by decide +kernel, by decide +kernel⟩
theorem bp__law_bar : BindsP "_law_bar" (top 84) ["_law_world_here", "_law_j", "_law_number_here"] := fun _ _ _ _ _ _ us hl => match us, hl with | [_, _, _], _ => rfl
theorem sc__law_bar_height : FnScope ["_law_bar_here", "_law_j", "_law_x", "_law_y"] ["_law_bar_here"] (defScope (top 85)) := ⟨rfl, rfl, rfl, by decide +kernel, rfl, by decide +kernel, by decide +kernel⟩
theorem bp__law_bar_height : BindsP "_law_bar_height" (top 85) ["_law_bar_here"] := fun _ _ _ _ _ _ us hl => match us, hl with | [_], _ => rfl
theorem sc__law_same : FnScope ["_law_told_here", "_law_due"] ["_law_told_here", "_law_due"] (defScope (top 86)) := ⟨rfl, rfl, rfl, by decide +kernel, rfl, by decide +kernel, by decide +kernel⟩
theorem bp__law_same : BindsP "_law_same" (top 86) ["_law_told_here", "_law_due"] := fun _ _ _ _ _ _ us hl => match us, hl with | [_, _], _ => rfl
theorem sc__law_place : FnScope ["_law_deck_here", "_law_world_here", "_law_j", "_law_d", "_law_keys_here", "_law_side"] ["_law_deck_here", "_law_world_here", "_law_j"] (defScope (top 87)) := ⟨rfl, rfl, rfl, by decide +kernel, rfl, by decide +kernel, by decide +kernel⟩
theorem bp__law_place : BindsP "_law_place" (top 87) ["_law_deck_here", "_law_world_here", "_law_j"] := fun _ _ _ _ _ _ us hl => match us, hl with | [_, _, _], _ => rfl
theorem sc__law_compared : FnScope ["_law_bar_here", "_law_height_here", "_law_a", "_law_b", "_law_d", "_law_one"] ["_law_bar_here", "_law_height_here"] (defScope (top 88)) := ⟨rfl, rfl, rfl, by decide +kernel, rfl, by decide +kernel, by decide +kernel⟩
theorem bp__law_compared : BindsP "_law_compared" (top 88) ["_law_bar_here", "_law_height_here"] := fun _ _ _ _ _ _ us hl => match us, hl with | [_, _], _ => rfl
theorem sc__law_below : FnScope ["_law_world_here", "_law_j", "_law_height_here", "_law_d", "_law_keys_here", "_law_side", "_law_a", "_law_b", "_law_by", "_law_near", "_law_far", "_law_x", "_law_number_here", "_law_turn"] ["_law_world_here", "_law_j", "_law_height_here"] (defScope (top 89)) := ⟨rfl, rfl, rfl, by decide +kernel, rfl, by decide +kernel, by decide +kernel⟩
theorem bp__law_below : BindsP "_law_below" (top 89) ["_law_world_here", "_law_j", "_law_height_here"] := fun _ _ _ _ _ _ us hl => match us, hl with | [_, _, _], _ => rfl
theorem sc__law_height : FnScope ["_law_deck_here", "_law_world_here", "_law_j", "_law_number_here", "_law_a", "_law_b", "_law_by"] ["_law_deck_here", "_law_world_here", "_law_j", "_law_number_here"] (defScope (top 90)) := ⟨rfl, rfl, rfl, by decide +kernel, rfl, by decide +kernel, by decide +kernel⟩
theorem bp__law_height : BindsP "_law_height" (top 90) ["_law_deck_here", "_law_world_here", "_law_j", "_law_number_here"] := fun _ _ _ _ _ _ us hl => match us, hl with | [_, _, _, _], _ => rfl
theorem sc__law_told : FnScope ["_law_floor_here", "_law_j", "_law_low", "_law_high", "_law_most", "e"] ["_law_floor_here", "_law_j", "_law_low", "_law_high", "_law_most"] (defScope (top 91)) := ⟨rfl, rfl, rfl, by decide +kernel, rfl, by decide +kernel, by decide +kernel⟩
theorem bp__law_told : BindsP "_law_told" (top 91) ["_law_floor_here", "_law_j", "_law_low", "_law_high", "_law_most"] := fun _ _ _ _ _ _ us hl => match us, hl with | [_, _, _, _, _], _ => rfl
theorem sc__law_is_crossing_right : FnScope ["_law_deck_here", "_law_one", "_law_other", "_law_bar_here", "_law_first", "_law_second", "_law_near", "_law_far", "_law_found", "_law_turn", "_law_told_here", "_law_a", "_law_b"] ["_law_deck_here"] (defScope (top 92)) := ⟨rfl, rfl, rfl, by decide +kernel, rfl, by decide +kernel, by decide +kernel⟩
theorem bp__law_is_crossing_right : BindsP "_law_is_crossing_right" (top 92) ["_law_deck_here"] := fun _ _ _ _ _ _ us hl => match us, hl with | [_], _ => rfl
theorem sc_law : FnScope ["_law_script", "_law_deck_here", "_law_world_here", "_law_floor_here", "_law_j", "_law_number_here", "_law_low", "_law_long", "_law_high", "_law_start", "_law_end", "_law_due", "_law_most", "_law_turn", "_law_way", "_law_bar_here", "_law_a", "_law_b", "_law_is_bar_of", "_law_told_here", "_law_it"] ["_law_script"] (defScope (top 93)) := ⟨rfl, rfl, rfl, by decide +kernel, rfl, by decide +kernel, by decide +kernel⟩
theorem kb_height_of_0 : BindsKw "height_of" (top 61) ["bar"] ["bar"] 0 1 [0] := fun _ _ _ _ _ _ us ws h1 h2 => match us, ws, h1, h2 with | [], [_], _, _ => rfl
theorem kb_crossing_of_0 : BindsKw "crossing_of" (top 64) ["one", "other"] ["other", "one"] 0 2 [1, 0] := fun _ _ _ _ _ _ us ws h1 h2 => match us, ws, h1, h2 with | [], [_, _], _, _ => rfl
theorem kb_bars_between_0 : BindsKw "bars_between" (top 63) ["floor", "direction", "low", "high", "most"] ["low", "high", "direction", "floor", "most"] 0 5 [3, 2, 0, 1, 4] := fun _ _ _ _ _ _ us ws h1 h2 => match us, ws, h1, h2 with | [], [_, _, _, _, _], _, _ => rfl
theorem kb_bar_below_0 : BindsKw "bar_below" (top 62) ["floor", "direction", "height"] ["height", "floor", "direction"] 0 3 [1, 2, 0] := fun _ _ _ _ _ _ us ws h1 h2 => match us, ws, h1, h2 with | [], [_, _, _], _, _ => rfl
theorem kb_has_bar_0 : BindsKw "has_bar" (top 59) ["floor", "thing"] ["thing", "floor"] 0 2 [1, 0] := fun _ _ _ _ _ _ us ws h1 h2 => match us, ws, h1, h2 with | [], [_, _], _, _ => rfl
theorem bm_Floor_0 : BindsM "Floor.__init__" (methS 52 0) ["one", "other", "side"] 2 1 [] [0, 1, 2] := fun _ _ _ _ _ _ _ us its ws h1 h2 h3 => match us, its, ws, h1, h2, h3 with | [_, _, _], [_], [], _, _, _ => ⟨_, rfl, rfl⟩
theorem bm_Floor_1 : BindsM "Floor.__init__" (methS 52 0) ["one", "other", "side"] 1 1 ["side", "other"] [0, 3, 2] := fun _ _ _ _ _ _ _ us its ws h1 h2 h3 => match us, its, ws, h1, h2, h3 with | [_, _], [_], [_, _], _, _, _ => ⟨_, rfl, rfl⟩
structure Bt (mg : Str → Option Value) : Prop where
  b_abs : mg "abs" = none
  b_all : mg "all" = none
  b_bool : mg "bool" = none
  b_int : mg "int" = none
  b_isinstance : mg "isinstance" = none
  b_len : mg "len" = none
  b_list : mg "list" = none
  b_max : mg "max" = none
  b_range : mg "range" = none
  b_repr : mg "repr" = none
  b_sorted : mg "sorted" = none
  b_tuple : mg "tuple" = none
  f_gcd : mg "gcd" = some (.builtin "math.gcd")
  f_isqrt : mg "isqrt" = some (.builtin "math.isqrt")
def clsML : List (Str × Str × Bool) := [("BadBar", "TooMany", false), ("BadDirection", "TooMany", false), ("BadNumber", "TooMany", false), ("BadSide", "TooMany", false), ("TooMany", "TooMany", true)]
def clsM (a b : Str) : Option Bool := look3 clsML a b
@[simp] theorem clsM_BadBar_TooMany : clsM "BadBar" "TooMany" = some false := by decide +kernel
@[simp] theorem clsM_BadDirection_TooMany : clsM "BadDirection" "TooMany" = some false := by decide +kernel
@[simp] theorem clsM_BadNumber_TooMany : clsM "BadNumber" "TooMany" = some false := by decide +kernel
@[simp] theorem clsM_BadSide_TooMany : clsM "BadSide" "TooMany" = some false := by decide +kernel
@[simp] theorem clsM_TooMany_TooMany : clsM "TooMany" "TooMany" = some true := by decide +kernel
def knownE_most (a : Str) : Bool := a == "TooMany"
def knownE_thing (a : Str) : Bool := a == "BadBar" || a == "BadDirection" || a == "BadNumber" || a == "BadSide"
@[simp] theorem knownE_most_TooMany : knownE_most "TooMany" = true := by decide +kernel
@[simp] theorem knownE_thing_BadBar : knownE_thing "BadBar" = true := by decide +kernel
@[simp] theorem knownE_thing_BadDirection : knownE_thing "BadDirection" = true := by decide +kernel
@[simp] theorem knownE_thing_BadNumber : knownE_thing "BadNumber" = true := by decide +kernel
@[simp] theorem knownE_thing_BadSide : knownE_thing "BadSide" = true := by decide +kernel
def initS (i : Nat) : Stmt := match top i with
  | .ClassDef _ _ _ b _ _ _ _ _ _ _ => b.getD 0 (.Pass ⟨0, 0, 0, 0⟩)
  | s => s
theorem in_BadBar {K : PySem.W.Frag} {fI : Addr} {fd : FuncData} (F : Fun K "__init__" "BadBar.__init__" (initS 36) fI fd) : ErInit K "BadBar.__init__" "thing" (initS 36) fI := ⟨⟨_, F⟩, ⟨_, _, _, _, rfl⟩, fun _ _ _ _ _ _ _ _ => rfl, fun _ _ => by rfl, fun _ _ _ => rfl, fun _ _ _ => rfl, fun _ _ _ _ _ => by rfl, fun _ _ _ _ _ => by rfl, ⟨rfl, rfl, rfl⟩, by decide +kernel⟩
theorem in_BadDirection {K : PySem.W.Frag} {fI : Addr} {fd : FuncData} (F : Fun K "__init__" "BadDirection.__init__" (initS 34) fI fd) : ErInit K "BadDirection.__init__" "thing" (initS 34) fI := ⟨⟨_, F⟩, ⟨_, _, _, _, rfl⟩, fun _ _ _ _ _ _ _ _ => rfl, fun _ _ => by rfl, fun _ _ _ => rfl, fun _ _ _ => rfl, fun _ _ _ _ _ => by rfl, fun _ _ _ _ _ => by rfl, ⟨rfl, rfl, rfl⟩, by decide +kernel⟩
theorem in_BadNumber {K : PySem.W.Frag} {fI : Addr} {fd : FuncData} (F : Fun K "__init__" "BadNumber.__init__" (initS 32) fI fd) : ErInit K "BadNumber.__init__" "thing" (initS 32) fI := ⟨⟨_, F⟩, ⟨_, _, _, _, rfl⟩, fun _ _ _ _ _ _ _ _ => rfl, fun _ _ => by rfl, fun _ _ _ => rfl, fun _ _ _ => rfl, fun _ _ _ _ _ => by rfl, fun _ _ _ _ _ => by rfl, ⟨rfl, rfl, rfl⟩, by decide +kernel⟩
theorem in_BadSide {K : PySem.W.Frag} {fI : Addr} {fd : FuncData} (F : Fun K "__init__" "BadSide.__init__" (initS 35) fI fd) : ErInit K "BadSide.__init__" "thing" (initS 35) fI := ⟨⟨_, F⟩, ⟨_, _, _, _, rfl⟩, fun _ _ _ _ _ _ _ _ => rfl, fun _ _ => by rfl, fun _ _ _ => rfl, fun _ _ _ => rfl, fun _ _ _ _ _ => by rfl, fun _ _ _ _ _ => by rfl, ⟨rfl, rfl, rfl⟩, by decide +kernel⟩
theorem in_TooMany {K : PySem.W.Frag} {fI : Addr} {fd : FuncData} (F : Fun K "__init__" "TooMany.__init__" (initS 31) fI fd) : ErInit K "TooMany.__init__" "most" (initS 31) fI := ⟨⟨_, F⟩, ⟨_, _, _, _, rfl⟩, fun _ _ _ _ _ _ _ _ => rfl, fun _ _ => by rfl, fun _ _ _ => rfl, fun _ _ _ => rfl, fun _ _ _ _ _ => by rfl, fun _ _ _ _ _ => by rfl, ⟨rfl, rfl, rfl⟩, by decide +kernel⟩
structure Ct (K : PySem.W.Frag) (mg : Str → Option Value) : Prop where
  er_BadBar : ∃ C fI, ErC K mg "BadBar" "thing" C fI ∧ ErInit K "BadBar.__init__" "thing" (initS 36) fI
  er_BadDirection : ∃ C fI, ErC K mg "BadDirection" "thing" C fI ∧ ErInit K "BadDirection.__init__" "thing" (initS 34) fI
  er_BadNumber : ∃ C fI, ErC K mg "BadNumber" "thing" C fI ∧ ErInit K "BadNumber.__init__" "thing" (initS 32) fI
  er_BadSide : ∃ C fI, ErC K mg "BadSide" "thing" C fI ∧ ErInit K "BadSide.__init__" "thing" (initS 35) fI
  er_TooMany : ∃ C fI, ErC K mg "TooMany" "most" C fI ∧ ErInit K "TooMany.__init__" "most" (initS 31) fI
  g_TooMany : ∃ C, mg "TooMany" = some (.ref C)
  tab : ClsTab ⟨K, mg⟩ clsM
  get_most : GetTab ⟨K, mg⟩ knownE_most "most"
  get_thing : GetTab ⟨K, mg⟩ knownE_thing "thing"
  dig : Dig K
  ob : ObTab ⟨K, mg⟩ knownO
  fld : FldTab ⟨K, mg⟩ fldO
  gl_FIRST_SIDE : GlobC ⟨K, mg⟩ "FIRST_SIDE" (.tup [.int 1, .int (-1), .int 1, .int 1, .int (-1)])
  gl_NO_SIDE : GlobC ⟨K, mg⟩ "NO_SIDE" (.tup [.int 0, .int 0, .int 0, .int 0, .int 0])
abbrev sp__law_draw := spDraw
theorem fld_k {k : D} {s : List Int} {Q : D → Prop} (q : Q k) : fldD fldO "all_keys" (flo k s) Q := ⟨_, _, _, rfl, fldO_Floor_all_keys, by simp [List.lookup], q⟩
theorem fld_s {k : D} {s : List Int} {Q : D → Prop} (q : Q (tD s)) : fldD fldO "side" (flo k s) Q := ⟨_, _, _, rfl, fldO_Floor_side, by simp [List.lookup], q⟩
abbrev TyK (x : D) : Prop := tyX knownO x = true
abbrev TyK1 (x : D) : Prop := Ty1 knownO x
theorem tyk1_tri (a b c : Int) : TyK1 (tri a b c) := ⟨rfl, fun xs e y m => by
  cases e
  simp only [List.mem_cons, List.not_mem_nil, or_false] at m
  rcases m with rfl | rfl | rfl <;> rfl⟩
def sp_is_integer : DSp := fun _ ds Q _ => ∃ x, ds = [x] ∧ TyK x ∧ Q (.bl (isI x))
theorem isi_hs {W : WD} (x : D) (Qd : D → Prop) (h : TyK x) (q : Qd (.bl (isI x))) : sp_is_integer W [x] Qd fun _ => False := ⟨x, rfl, h, q⟩
def sp_normal : DSp := fun _ ds Q _ => ∃ a b d, ds = [.int a, .int b, .int d] ∧ Sz 8900 d ∧ d ≠ 0 ∧ Q (red a b d)
def sp_pair_sign : DSp := fun _ ds Q _ => ∃ a b, ds = [.int a, .int b] ∧ Sz 200000 a ∧ Sz 200000 b ∧ Q (.int (psg a b))
def sp_negative : DSp := fun _ ds Q _ => ∃ a b m, ds = [tri a b m] ∧ Q (tri (-a) (-b) m)
def sp_times_g : DSp := fun _ ds Q _ => ∃ a b m, ds = [tri a b m] ∧ Q (tri b (a + b) m)
def sp_times_less : DSp := fun _ ds Q _ => ∃ a b m, ds = [tri a b m] ∧ Q (tri (b - a) a m)
def sp_is_whole_number : DSp := fun _ ds Q _ => ∃ a b m, ds = [tri a b m] ∧ 1 ≤ m ∧ Q (.bl (wholeB a b m))
def sp_floor_integer : DSp := fun _ ds Q _ => ∃ a b m, ds = [tri a b m] ∧ Num 6000 a b m ∧ Q (.int (flr a b m))
def ordD (r s : Int) : D := if (s - r) % 5 ≤ 2 then .tup [.int r, .int s] else .tup [.int s, .int r]
def sp_in_order : DSp := fun _ ds Q _ => ∃ r s, ds = [.int r, .int s] ∧ 0 ≤ r ∧ r ≤ 4 ∧ 0 ≤ s ∧ s ≤ 4 ∧ Q (ordD r s)
def sp_raw_phase : DSp := fun _ ds Q _ => ∃ j x y a b d s, ds = [flo (keyD a b d) s, brD j x y] ∧ KA 4000 a b d ∧ 0 ≤ j ∧ j ≤ 4 ∧ Sz 1000 x ∧ Sz 1000 y ∧ ∀ u v w, Num 4000 u v w → u * d = a j * w → v * d = b j * w → Q (tri ((x + y) * w - u) (-x * w - v) w)
def sp__law_sign : DSp := fun _ ds Q _ => ∃ a b, ds = [.int a, .int b] ∧ Sz 200000 a ∧ Sz 200000 b ∧ Q (.int (psg a b))
def sp__law_root : DSp := fun _ ds Q _ => ∃ n, ds = [.int n] ∧ 1 ≤ n ∧ n.natAbs.log2 < 780 ∧ ∀ r, Root n r → Q (.int r)
def sp__law_common : DSp := fun _ ds Q _ => ∃ a b, ds = [.int a, .int b] ∧ 0 ≤ a ∧ 0 ≤ b ∧ Sz 440 b ∧ Q (.int ((Nat.gcd a.natAbs b.natAbs : Nat) : Int))
def sp__law_keys : DSp := fun _ ds Q _ => ∃ r p q u v, ∃ n : Nat, ds = [.int r, pr p q, pr u v] ∧ 0 ≤ r ∧ r ≤ 4 ∧ Sz n p ∧ Sz n q ∧ Sz n u ∧ Sz n v ∧ ∀ a b, KR a b → a r = p → b r = q → a ((r + 1) % 5) = u → b ((r + 1) % 5) = v → Szf (n + 3) a → Szf (n + 3) b → Q (keysP a b)
def sp__law_whole : DSp := fun _ ds Q _ => ∃ a b d, ds = [.int d, keysP a b] ∧ 1 ≤ d ∧ Q (.lst ((whL a b d).map .int))
def sp__law_phase : DSp := fun _ ds Q _ => ∃ a b d s j n x, ds = [wrl a b d s, .int j, .int n, .int x] ∧ KA 1000 a b d ∧ 0 ≤ j ∧ j ≤ 4 ∧ Sz 1000 n ∧ Sz 1000 x ∧ Q (pr (d * n - a j) (-d * x - b j))
def sp__law_same : DSp := fun _ ds Q _ => ∃ x, ds = [x, x] ∧ Rok x ∧ Q (.bl true)
def sp_is_number : DSp := fun _ ds Q _ => ∃ x, ds = [x] ∧ TyK1 x ∧ Q (.bl (isNum x))
def sp_compared : DSp := fun _ ds Q _ => ∃ N a b m c d n, ds = [tri a b m, tri c d n] ∧ Num N a b m ∧ Num N c d n ∧ N ≤ 50000 ∧ Q (.int (psg (a * n - c * m) (b * n - d * m)))
def sp_added : DSp := fun _ ds Q _ => ∃ n m a b d c e f, ds = [tri a b d, tri c e f] ∧ Num n a b d ∧ Num m c e f ∧ n + m ≤ 400000 ∧ Sz 4400 d ∧ Sz 4400 f ∧ Q (red (a * f + c * d) (b * f + e * d) (d * f))
def sp_multiplied : DSp := fun _ ds Q _ => ∃ n m a b d c e f, ds = [tri a b d, tri c e f] ∧ Num n a b d ∧ Num m c e f ∧ n + m ≤ 400000 ∧ Sz 4400 d ∧ Sz 4400 f ∧ Q (red (a * c + b * e) (a * e + b * c + b * e) (d * f))
def sp_is_direction : DSp := fun _ ds Q _ => ∃ x, ds = [x] ∧ TyK x ∧ Q (.bl (isDir x))
def sp_phase_sign : DSp := fun _ ds Q _ => ∃ j x y p q a b d s, ds = [flo (keyD a b d) s, brD j x y, .int p, .int q] ∧ KA 4000 a b d ∧ s.length = 5 ∧ 0 ≤ j ∧ j ≤ 4 ∧ Sz 1000 x ∧ Sz 1000 y ∧ Sz 3 p ∧ Sz 3 q ∧ Q (.int (phS a b d s j x y p q))
def sp_whole_directions : DSp := fun _ ds Q _ => ∃ a b d, ds = [keyD a b d] ∧ KA 4000 a b d ∧ Q (.tup ((whL a b d).map .int))
def sp__law_pick : DSp := fun W ds Q _ => ∃ d l xs, W = some (d, l) ∧ (ds = [dkD d, .lst xs] ∨ ds = [dkD d, .tup xs]) ∧ 0 < xs.length ∧ xs.length < 2 ^ 62 ∧ ∀ x ∈ xs, Q x
def sp__law_number : DSp := fun W ds Q _ => ∃ d l, W = some (d, l) ∧ ds = [dkD d] ∧ ∀ i, Sz 120 i → Q (.int i)
def tieS (a b s : Int) : Int := if psg a b ≠ 0 then psg a b else -s
def sp__law_tie : DSp := fun _ ds Q _ => ∃ a b s, ds = [.int a, .int b, .int s] ∧ Sz 200000 a ∧ Sz 200000 b ∧ Q (.int (tieS a b s))
def sp__law_under : DSp := fun _ ds Q _ => ∃ a b d, ds = [.int a, .int b, .int d] ∧ Sz 800 a ∧ Sz 380 b ∧ 1 ≤ d ∧ Sz 8900 d ∧ Q (.int (flr a b d))
def sp__law_golden : DSp := fun _ ds Q _ => ∃ a b d, ds = [.int a, .int b, .int d] ∧ Sz 440 a ∧ Sz 440 b ∧ Sz 440 d ∧ 1 ≤ d ∧ Q (red a b d)
def sp__law_sides : DSp := fun _ ds Q _ => ∃ a b d, ds = [.int d, keysP a b] ∧ 1 ≤ d ∧ KR a b ∧ Q (.lst ((sidesL (whL a b d)).map tD))
def sp_taken : DSp := fun _ ds Q _ => ∃ n m a b d c e f, ds = [tri a b d, tri c e f] ∧ Num n a b d ∧ Num m c e f ∧ n + m ≤ 400000 ∧ Sz 4400 d ∧ Sz 4400 f ∧ Q (red (a * f + -c * d) (b * f + -e * d) (d * f))
def sp_divided : DSp := fun _ ds Q _ => ∃ n m a b d c e f, ds = [tri a b d, tri c e f] ∧ Num n a b d ∧ Num m c e f ∧ n + 2 * m ≤ 390000 ∧ m ≤ 2200 ∧ Sz 4400 d ∧ ¬ (c = 0 ∧ e = 0) ∧ Q (red ((a * (c + e) - b * e) * f) ((b * c - a * e) * f) ((c * c + c * e - e * e) * d))
def sp_floor_has_bar : DSp := fun _ ds Q _ => ∃ j x y a b d s, ds = [flo (keyD a b d) s, brD j x y] ∧ KA 4000 a b d ∧ s.length = 5 ∧ 0 ≤ j ∧ j ≤ 4 ∧ Sz 1000 x ∧ Sz 1000 y ∧ Q (.bl (hasR a b d s j x y))
def sp_is_long : DSp := fun _ ds Q _ => ∃ j x y a b d s, ds = [flo (keyD a b d) s, brD j x y] ∧ KA 4000 a b d ∧ s.length = 5 ∧ 0 ≤ j ∧ j ≤ 4 ∧ Sz 1000 x ∧ Sz 1000 y ∧ Q (.bl (decide (0 < phS a b d s j x y 0 0)))
def sp_sides_of : DSp := fun _ ds Q _ => ∃ a b d, ds = [keyD a b d] ∧ KA 4000 a b d ∧ Q (.tup ((sidesL (whL a b d)).map tD))
def sp_is_bar : DSp := fun _ ds Q _ => ∃ j x y, ds = [brD j x y] ∧ 0 ≤ j ∧ j ≤ 4 ∧ Q (.bl true)
def sp_need_direction : DSp := fun _ ds Q _ => ∃ j, ds = [.int j] ∧ 0 ≤ j ∧ j ≤ 4 ∧ Q .non
def sp__law_world : DSp := fun W ds Q _ => ∃ d l e, W = some (d, l) ∧ ds = [dkD d, .bl e] ∧ ∀ a b m s, Wld3 a b m s → Q (wrl a b m s)
def sp__law_bar : DSp := fun _ ds Q _ => ∃ a b d s j n, ds = [wrl a b d s, .int j, .int n] ∧ KA 180 a b d ∧ Sz 30 d ∧ s ∈ sidesL (whL a b d) ∧ 0 ≤ j ∧ j ≤ 4 ∧ Sz 180 n ∧ (Sz 230 (barX a b d s j n) → Q (brD j (barX a b d s j n) (n - barX a b d s j n)))
def sp__law_place : DSp := fun W ds Q _ => ∃ dk l a b d s j, W = some (dk, l) ∧ ds = [dkD dk, wrl a b d s, .int j] ∧ KA 170 a b d ∧ 0 ≤ j ∧ j ≤ 4 ∧ ∀ i, Sz 175 i → Q (.int i)
def sp_next_bar : DSp := fun _ ds Q _ => ∃ j x y a b d s, ds = [flo (keyD a b d) s, brD j x y] ∧ KA 4000 a b d ∧ s.length = 5 ∧ 0 ≤ j ∧ j ≤ 4 ∧ Sz 1000 x ∧ Sz 1000 y ∧ Q (if 0 < phS a b d s j x y 0 0 then brD j (x + 1) y else brD j x (y + 1))
def sp_bar_by : DSp := fun _ ds Q _ => ∃ j n a b d s, ds = [flo (keyD a b d) s, .int j, .int n] ∧ KA 400 a b d ∧ s.length = 5 ∧ 0 ≤ j ∧ j ≤ 4 ∧ Sz 400 n ∧ (Sz 810 (barX a b d s j n) → Q (brD j (barX a b d s j n) (n - barX a b d s j n)))
def sp_keys_from : DSp := fun _ ds Q _ => ∃ x y a b d, ds = [x, y] ∧ KA 4000 a b d ∧ Fr 4000 x (a 0) (b 0) d ∧ Fr 4000 y (a 1) (b 1) d ∧ Q (keyD a b d)
def sp_is_side : DSp := fun _ ds Q _ => ∃ x a b d, ds = [keyD a b d, x] ∧ KA 4000 a b d ∧ TyK1 x ∧ Q (.bl (isSide (whL a b d) x))
def sp_need_bar : DSp := fun _ ds Q _ => ∃ j x y, ds = [brD j x y] ∧ 0 ≤ j ∧ j ≤ 4 ∧ Q .non
def sp_has_bar : DSp := sp_floor_has_bar
def sp_Floor : DSp := fun _ ds Q _ => ∃ x y s a b d, ds = [x, y, tD s] ∧ KA 4000 a b d ∧ Fr 4000 x (a 0) (b 0) d ∧ Fr 4000 y (a 1) (b 1) d ∧ s ∈ sidesL (whL a b d) ∧ Q (flo (keyD a b d) s)
def sp_phase_of : DSp := fun _ ds Q _ => ∃ j x y a b d s, ds = [flo (keyD a b d) s, brD j x y] ∧ KA 4000 a b d ∧ 0 ≤ j ∧ j ≤ 4 ∧ Sz 1000 x ∧ Sz 1000 y ∧ Q (red ((x + y) * d - a j) (-x * d - b j) d)
def sp__law_floor : DSp := fun W ds Q _ => ∃ d l a b m s, W = some (d, l) ∧ ds = [dkD d, wrl a b m s] ∧ Wld a b m s ∧ Q (flo (keyD a b m) s)
/-! k65: bars by height and their crossings -/
def bD (a b : Int → Int) (d : Int) (s : List Int) (j n : Int) : D := brD j (barX a b d s j n) (n - barX a b d s j n)
def barsL (a b : Int → Int) (d : Int) (s : List Int) (j m : Int) (k : Nat) : List D := (List.range k).map fun (i : Nat) => bD a b d s j (m + (i : Int))
/-- the first bar that is not below a height, and how many there are -/
def btS (a b : Int → Int) (d : Int) (s : List Int) (j u v w n0 : Int) : Int := if cHn a b d s j u v w n0 < 0 then n0 + 1 else n0
def btN (a b : Int → Int) (d : Int) (s : List Int) (j u v w n0 n1 : Int) : Nat := (n1 + 1 - btS a b d s j u v w n0).toNat
structure BtW (a b : Int → Int) (d : Int) (s : List Int) (j u v w u' v' w' m n0 n1 : Int) : Prop where
  ka : KA 170 a b d
  hs : s ∈ sidesL (whL a b d)
  j0 : 0 ≤ j
  j4 : j ≤ 4
  h : Num 240 u v w
  h' : Num 240 u' v' w'
  z0 : Sz 176 n0
  z1 : Sz 176 n1
  e0 : ∀ n, 0 < cHn a b d s j u v w n ↔ n0 < n
  e1 : ∀ n, 0 < cHn a b d s j u' v' w' n ↔ n1 < n
  sw : Sz 10 w
  sw' : Sz 10 w'
  sd : Sz 30 d
  m0 : 0 ≤ m
  few : n1 - n0 ≤ 500
def sp_height_by : DSp := fun _ ds Q _ => ∃ j x y, ds = [brD j x y] ∧ Sz 1000 x ∧ Sz 1000 y ∧ Q (red (hA x y) (hB x y) 4)
def sp_height_of : DSp := fun _ ds Q _ => ∃ j x y, ds = [brD j x y] ∧ 0 ≤ j ∧ j ≤ 4 ∧ Sz 1000 x ∧ Sz 1000 y ∧ Q (red (hA x y) (hB x y) 4)
def sp__law_bar_height : DSp := fun _ ds Q _ => ∃ j x y, ds = [brD j x y] ∧ Sz 1000 x ∧ Sz 1000 y ∧ Q (pr (hA x y) (hB x y))
def sp__law_compared : DSp := fun _ ds Q _ => ∃ j x y u v w, ds = [brD j x y, tri u v w] ∧ Sz 1000 x ∧ Sz 1000 y ∧ Sz 1000 u ∧ Sz 1000 v ∧ Sz 1000 w ∧ Q (.int (cHt u v w x y))
def sp_bar_below_by : DSp := fun _ ds Q _ => ∃ j u v w n0 a b d s, ds = [flo (keyD a b d) s, .int j, tri u v w] ∧ KA 170 a b d ∧ s ∈ sidesL (whL a b d) ∧ 0 ≤ j ∧ j ≤ 4 ∧ Num 240 u v w ∧ Sz 10 w ∧ Sz 30 d ∧ Sz 176 n0 ∧ (∀ n, 0 < cHn a b d s j u v w n ↔ n0 < n) ∧ Q (bD a b d s j n0)
def sp_point_with : DSp := fun _ ds Q _ => ∃ j i a b, ds = [.int j, red (a j) (b j) 4, .int i, red (a i) (b i) 4] ∧ 0 ≤ j ∧ j ≤ 4 ∧ 0 ≤ i ∧ i ≤ 4 ∧ j ≠ i ∧ HR a b ∧ Szf 1090 a ∧ Szf 1090 b ∧ Q (keyD a b 4)
def sp_bar_below : DSp := fun _ ds Q _ => ∃ j u v w n0 a b d s, ds = [flo (keyD a b d) s, .int j, tri u v w] ∧ KA 170 a b d ∧ s ∈ sidesL (whL a b d) ∧ 0 ≤ j ∧ j ≤ 4 ∧ Num 240 u v w ∧ Sz 10 w ∧ Sz 30 d ∧ Sz 176 n0 ∧ (∀ n, 0 < cHn a b d s j u v w n ↔ n0 < n) ∧ Q (bD a b d s j n0)
def sp_bars_between : DSp := fun _ ds Q R => ∃ j u v w u' v' w' m n0 n1 a b d s, ds = [flo (keyD a b d) s, .int j, tri u v w, tri u' v' w', .int m] ∧ BtW a b d s j u v w u' v' w' m n0 n1 ∧ ((btN a b d s j u v w n0 n1 : Int) ≤ m → Q (.tup (barsL a b d s j (btS a b d s j u v w n0) (btN a b d s j u v w n0 n1)))) ∧ (m < (btN a b d s j u v w n0 n1 : Int) → R ⟨"TooMany", [("most", .int m)]⟩)
def sp_crossing_of : DSp := fun _ ds Q _ => ∃ j x y i u v a b, ds = [brD j x y, brD i u v] ∧ 0 ≤ j ∧ j ≤ 4 ∧ 0 ≤ i ∧ i ≤ 4 ∧ j ≠ i ∧ HR a b ∧ Szf 1090 a ∧ Szf 1090 b ∧ Sz 1000 x ∧ Sz 1000 y ∧ Sz 1000 u ∧ Sz 1000 v ∧ a j = hA x y ∧ b j = hB x y ∧ a i = hA u v ∧ b i = hB u v ∧ Q (keyD a b 4)
def sp_is_point : DSp := fun _ ds Q _ => ∃ a b, ds = [keyD a b 4] ∧ HR a b ∧ Szf 1090 a ∧ Szf 1090 b ∧ Q (.bl true)
def sp__law_below : DSp := fun _ ds Q _ => ∃ a b d s j u v w n0, ds = [wrl a b d s, .int j, tri u v w] ∧ KA 170 a b d ∧ Sz 30 d ∧ s ∈ sidesL (whL a b d) ∧ 0 ≤ j ∧ j ≤ 4 ∧ Sz 240 u ∧ Sz 240 v ∧ Sz 10 w ∧ 1 ≤ w ∧ Sz 176 n0 ∧ (∀ n, 0 < cHn a b d s j u v w n ↔ n0 < n) ∧ Q (.int n0)
def sp__law_height : DSp := fun W ds Q _ => ∃ dk l a b d s j n, W = some (dk, l) ∧ ds = [dkD dk, wrl a b d s, .int j, .int n] ∧ KA 170 a b d ∧ Sz 30 d ∧ s ∈ sidesL (whL a b d) ∧ 0 ≤ j ∧ j ≤ 4 ∧ Sz 177 n ∧ ∀ k e f : Int, 1 ≤ k → k ≤ 25 → -4 ≤ e → e ≤ 4 → -2 ≤ f → f ≤ 2 → Q (tri (hA (barX a b d s j n) (n - barX a b d s j n) * k + e) (hB (barX a b d s j n) (n - barX a b d s j n) * k + f) (4 * k))
def sp__law_told : DSp := fun _ ds Q _ => ∃ j u v w u' v' w' m n0 n1 a b d s, ds = [flo (keyD a b d) s, .int j, tri u v w, tri u' v' w', .int m] ∧ BtW a b d s j u v w u' v' w' m n0 n1 ∧ Q (if (btN a b d s j u v w n0 n1 : Int) ≤ m then .tup (barsL a b d s j (btS a b d s j u v w n0) (btN a b d s j u v w n0 n1)) else .tup [.str "TooMany", .int m])
def sp__law_is_crossing_right : DSp := fun W ds Q _ => ∃ dk l, W = some (dk, l) ∧ ds = [dkD dk] ∧ Q (.bl true)
def g_is_integer (W : WD) (R : Er → Prop) : GS :=
  (gRet (gAnd (gBlt (isiX knownO) (gCons (gVar 0) (gCons (gC (.opq (.ty "int"))) gNil))) (gNot (gBlt (isiX knownO) (gCons (gVar 0) (gCons (gC (.opq (.ty "bool"))) gNil))))))
def g_normal (W : WD) (R : Er → Prop) : GS :=
  (gSeq (gSet 3 (gBlt gcdD (gCons (gBlt gcdD (gCons (gVar 0) (gCons (gVar 1) gNil))) (gCons (gVar 2) gNil))))
    (gSeq (gIfS (gB (gBin ltD (gVar 2) (gC (.int 0)))) (gSet 3 (gUn negD (gVar 3))) gSkip)
    (gRet (gTup (gCons (gBin fdivA (gVar 0) (gVar 3)) (gCons (gBin fdivA (gVar 1) (gVar 3)) (gCons (gBin fdivA (gVar 2) (gVar 3)) gNil)))))))
def g_pair_sign (W : WD) (R : Er → Prop) : GS :=
  (gSeq (gSet 2 (gBin addD (gBin mulD (gC (.int 2)) (gVar 0)) (gVar 1)))
    (gSeq (gIfS (gAndT (gB (gBin geD (gVar 2) (gC (.int 0)))) (gB (gBin geD (gVar 1) (gC (.int 0))))) (gRet (gIf (gOrT (gB (gBin gtD (gVar 2) (gC (.int 0)))) (gB (gBin gtD (gVar 1) (gC (.int 0))))) (gC (.int 1)) (gC (.int 0)))) gSkip)
    (gSeq (gIfS (gAndT (gB (gBin leD (gVar 2) (gC (.int 0)))) (gB (gBin leD (gVar 1) (gC (.int 0))))) (gRet (gUn negD (gC (.int 1)))) gSkip)
    (gSeq (gSet 3 (gBin gtD (gBin mulD (gVar 2) (gVar 2)) (gBin mulD (gBin mulD (gC (.int 5)) (gVar 1)) (gVar 1))))
    (gSeq (gIfS (gB (gBin gtD (gVar 2) (gC (.int 0)))) (gRet (gIf (gTru (gVar 3)) (gC (.int 1)) (gUn negD (gC (.int 1))))) gSkip)
    (gRet (gIf (gTru (gVar 3)) (gUn negD (gC (.int 1))) (gC (.int 1)))))))))
def g_negative (W : WD) (R : Er → Prop) : GS :=
  (gRet (gTup (gCons (gUn negD (gBin ixD (gVar 0) (gC (.int 0)))) (gCons (gUn negD (gBin ixD (gVar 0) (gC (.int 1)))) (gCons (gBin ixD (gVar 0) (gC (.int 2))) gNil)))))
def g_times_g (W : WD) (R : Er → Prop) : GS :=
  (gRet (gTup (gCons (gBin ixD (gVar 0) (gC (.int 1))) (gCons (gBin addD (gBin ixD (gVar 0) (gC (.int 0))) (gBin ixD (gVar 0) (gC (.int 1)))) (gCons (gBin ixD (gVar 0) (gC (.int 2))) gNil)))))
def g_times_less (W : WD) (R : Er → Prop) : GS :=
  (gRet (gTup (gCons (gBin subD (gBin ixD (gVar 0) (gC (.int 1))) (gBin ixD (gVar 0) (gC (.int 0)))) (gCons (gBin ixD (gVar 0) (gC (.int 0))) (gCons (gBin ixD (gVar 0) (gC (.int 2))) gNil)))))
def g_is_whole_number (W : WD) (R : Er → Prop) : GS :=
  (gRet (gAnd (gBin eqD (gBin modD (gBin ixD (gVar 0) (gC (.int 0))) (gBin ixD (gVar 0) (gC (.int 2)))) (gC (.int 0))) (gBin eqD (gBin modD (gBin ixD (gVar 0) (gC (.int 1))) (gBin ixD (gVar 0) (gC (.int 2)))) (gC (.int 0)))))
def g_floor_integer (W : WD) (R : Er → Prop) : GS :=
  (gSeq (gPar [1, 2, 3] (gCons (gBin addD (gBin mulD (gC (.int 2)) (gBin ixD (gVar 0) (gC (.int 0)))) (gBin ixD (gVar 0) (gC (.int 1)))) (gCons (gBin ixD (gVar 0) (gC (.int 1))) (gCons (gBin mulD (gC (.int 2)) (gBin ixD (gVar 0) (gC (.int 2)))) gNil))))
    (gSeq (gSet 4 (gBlt isqrtD (gCons (gBin mulD (gBin mulD (gC (.int 5)) (gVar 2)) (gVar 2)) gNil)))
    (gSeq (gIfS (gB (gBin geD (gVar 2) (gC (.int 0)))) (gRet (gBin fdivD (gBin addD (gVar 1) (gVar 4)) (gVar 3))) gSkip)
    (gRet (gBin fdivD (gBin subD (gBin subD (gVar 1) (gVar 4)) (gC (.int 1))) (gVar 3))))))
def g_in_order (W : WD) (R : Er → Prop) : GS :=
  (gRet (gIf (gB (gBin leD (gBin modD (gBin subD (gVar 1) (gVar 0)) (gC (.int 5))) (gC (.int 2)))) (gTup (gCons (gVar 0) (gCons (gVar 1) gNil))) (gTup (gCons (gVar 1) (gCons (gVar 0) gNil)))))
def g_raw_phase (W : WD) (R : Er → Prop) : GS :=
  (gSeq (gSetT [2, 3, 4] (gVar 1))
    (gSeq (gSetT [5, 6, 7] (gBin ixD (gFld fldO "all_keys" (gVar 0)) (gVar 2)))
    (gRet (gTup (gCons (gBin subD (gBin mulD (gBin addD (gVar 3) (gVar 4)) (gVar 7)) (gVar 5)) (gCons (gBin subD (gBin mulD (gUn negD (gVar 3)) (gVar 7)) (gVar 6)) (gCons (gVar 7) gNil)))))))
def g__law_sign (W : WD) (R : Er → Prop) : GS :=
  (gSeq (gSet 2 (gBin addD (gBin mulD (gC (.int 2)) (gVar 0)) (gVar 1)))
    (gSeq (gIfS (gAndT (gB (gBin geD (gVar 2) (gC (.int 0)))) (gB (gBin geD (gVar 1) (gC (.int 0))))) (gRet (gBlt intB (gCons (gBin gtD (gBin addD (gVar 2) (gVar 1)) (gC (.int 0))) gNil))) gSkip)
    (gSeq (gIfS (gAndT (gB (gBin leD (gVar 2) (gC (.int 0)))) (gB (gBin leD (gVar 1) (gC (.int 0))))) (gRet (gUn negD (gC (.int 1)))) gSkip)
    (gRet (gBin mulD (gIf (gB (gBin gtD (gVar 2) (gC (.int 0)))) (gC (.int 1)) (gUn negD (gC (.int 1)))) (gIf (gB (gBin gtD (gBin mulD (gVar 2) (gVar 2)) (gBin mulD (gBin mulD (gC (.int 5)) (gVar 1)) (gVar 1)))) (gC (.int 1)) (gUn negD (gC (.int 1)))))))))
def g__law_root (W : WD) (R : Er → Prop) : GS :=
  (gSeq (gSet 1 (gBin shlD (gC (.int 1)) (gBin addD (gBin fdivD (gUn bitsD (gVar 0)) (gC (.int 2))) (gC (.int 1)))))
    (gSeq (gFor (gRng1 (gCons (gC (.int 400)) gNil)) (ggName 2) (gSeq (gSet 3 (gBin fdivD (gBin addD (gVar 1) (gBin fdivD (gVar 0) (gVar 1))) (gC (.int 2))))
    (gSeq (gIfS (gB (gBin geD (gVar 3) (gVar 1))) (gRet (gVar 1)) gSkip)
    (gSet 1 (gBlt max2D (gCons (gC (.int 1)) (gCons (gVar 3) gNil)))))))
    (gRet (gVar 1))))
def g__law_common (W : WD) (R : Er → Prop) : GS :=
  (gSeq (gFor (gRng1 (gCons (gC (.int 900)) gNil)) (ggName 2) (gSeq (gIfS (gB (gBin eqD (gVar 1) (gC (.int 0)))) (gRet (gVar 0)) gSkip)
    (gPar [0, 1] (gCons (gVar 1) (gCons (gBin modD (gBlt intB (gCons (gVar 0) gNil)) (gVar 1)) gNil)))))
    (gRet (gVar 0)))
def g__law_keys (W : WD) (R : Er → Prop) : GS :=
  (gSeq (gSetL 3 (gBinF repF (gFrz (gLst (gCons (gVar 1) gNil))) (gC (.int 5))))
    (gSeq (gSetI 3 (gVar 2) (gBin modD (gBlt intB (gCons (gBin addD (gVar 0) (gC (.int 1))) gNil)) (gC (.int 5))))
    (gSeq (gFor (gRng1 (gCons (gC (.int 3)) gNil)) (ggName 4) (gSeq (gPar [5, 6] (gCons (gBin ixD (gVarB 3) (gBin modD (gBlt intB (gCons (gBin addD (gVar 0) (gVar 4)) gNil)) (gC (.int 5)))) (gCons (gBin ixD (gVarB 3) (gBin modD (gBlt intB (gCons (gBin addD (gBin addD (gVar 0) (gVar 4)) (gC (.int 1))) gNil)) (gC (.int 5)))) gNil)))
    (gSetI 3 (gTup (gCons (gBin subD (gUn negD (gBin ixD (gVar 6) (gC (.int 1)))) (gBin ixD (gVar 5) (gC (.int 0)))) (gCons (gBin subD (gBin subD (gUn negD (gBin ixD (gVar 6) (gC (.int 0)))) (gBin ixD (gVar 6) (gC (.int 1)))) (gBin ixD (gVar 5) (gC (.int 1)))) gNil))) (gBin modD (gBlt intB (gCons (gBin addD (gBin addD (gVar 0) (gVar 4)) (gC (.int 2))) gNil)) (gC (.int 5))))))
    (gRet (gBlt tupleD (gCons (gVarB 3) gNil))))))
def g__law_whole (W : WD) (R : Er → Prop) : GS :=
  (gRet (gFrz (gLc (gRng1 (gCons (gC (.int 5)) gNil)) (ggName 2) (gAndT (gB (gBin eqD (gBin modD (gBlt intB (gCons (gBin ixD (gBin ixD (gVar 1) (gVar 2)) (gC (.int 0))) gNil)) (gVar 0)) (gC (.int 0)))) (gB (gBin eqD (gBin modD (gBlt intB (gCons (gBin ixD (gBin ixD (gVar 1) (gVar 2)) (gC (.int 1))) gNil)) (gVar 0)) (gC (.int 0))))) (gVar 2) [2])))
def g__law_phase (W : WD) (R : Er → Prop) : GS :=
  (gSeq (gSetT [4, 5, 6] (gVar 0))
    (gRet (gTup (gCons (gBin subD (gBin mulD (gVar 4) (gVar 2)) (gBin ixD (gBin ixD (gVar 5) (gVar 1)) (gC (.int 0)))) (gCons (gBin subD (gBin mulD (gUn negD (gVar 4)) (gVar 3)) (gBin ixD (gBin ixD (gVar 5) (gVar 1)) (gC (.int 1)))) gNil)))))
def g__law_bar_height (W : WD) (R : Er → Prop) : GS :=
  (gSeq (gSetT [1, 2, 3] (gVar 0))
    (gRet (gTup (gCons (gBin subD (gBin subD (gBin mulD (gC (.int 4)) (gVar 2)) (gBin mulD (gC (.int 2)) (gVar 3))) (gC (.int 1))) (gCons (gBin subD (gBin addD (gBin mulD (gC (.int 2)) (gVar 2)) (gBin mulD (gC (.int 4)) (gVar 3))) (gC (.int 3))) gNil)))))
def g__law_same (W : WD) (R : Er → Prop) : GS :=
  (gRet (gBin eqD (gBlt reprB (gCons (gVar 0) gNil)) (gBlt reprB (gCons (gVar 1) gNil))))
def g_is_number (W : WD) (R : Er → Prop) : GS :=
  (gSeq (gIfS (gOrT (gNotT (gTru (gBlt (isiX knownO) (gCons (gVar 0) (gCons (gC (.opq (.ty "tuple"))) gNil))))) (gB (gBin neD (gBlt lenD (gCons (gVar 0) gNil)) (gC (.int 3))))) (gRet (gC (.bl false))) gSkip)
    (gRet (gAnd (gCall sp_is_integer W R (gCons (gBin ixD (gVar 0) (gC (.int 0))) gNil)) (gAnd (gCall sp_is_integer W R (gCons (gBin ixD (gVar 0) (gC (.int 1))) gNil)) (gAnd (gCall sp_is_integer W R (gCons (gBin ixD (gVar 0) (gC (.int 2))) gNil)) (gBin geD (gBin ixD (gVar 0) (gC (.int 2))) (gC (.int 1))))))))
def g_compared (W : WD) (R : Er → Prop) : GS :=
  (gRet (gCall sp_pair_sign W R (gCons (gBin subD (gBin mulD (gBin ixD (gVar 0) (gC (.int 0))) (gBin ixD (gVar 1) (gC (.int 2)))) (gBin mulD (gBin ixD (gVar 1) (gC (.int 0))) (gBin ixD (gVar 0) (gC (.int 2))))) (gCons (gBin subD (gBin mulD (gBin ixD (gVar 0) (gC (.int 1))) (gBin ixD (gVar 1) (gC (.int 2)))) (gBin mulD (gBin ixD (gVar 1) (gC (.int 1))) (gBin ixD (gVar 0) (gC (.int 2))))) gNil))))
def g_added (W : WD) (R : Er → Prop) : GS :=
  (gSeq (gSet 2 (gBin mulD (gBin ixD (gVar 0) (gC (.int 2))) (gBin ixD (gVar 1) (gC (.int 2)))))
    (gRet (gCall sp_normal W R (gCons (gBin addD (gBin mulD (gBin ixD (gVar 0) (gC (.int 0))) (gBin ixD (gVar 1) (gC (.int 2)))) (gBin mulD (gBin ixD (gVar 1) (gC (.int 0))) (gBin ixD (gVar 0) (gC (.int 2))))) (gCons (gBin addD (gBin mulD (gBin ixD (gVar 0) (gC (.int 1))) (gBin ixD (gVar 1) (gC (.int 2)))) (gBin mulD (gBin ixD (gVar 1) (gC (.int 1))) (gBin ixD (gVar 0) (gC (.int 2))))) (gCons (gVar 2) gNil))))))
def g_multiplied (W : WD) (R : Er → Prop) : GS :=
  (gSeq (gSetT [2, 3, 4, 5] (gTup (gCons (gBin ixD (gVar 0) (gC (.int 0))) (gCons (gBin ixD (gVar 0) (gC (.int 1))) (gCons (gBin ixD (gVar 1) (gC (.int 0))) (gCons (gBin ixD (gVar 1) (gC (.int 1))) gNil))))))
    (gRet (gCall sp_normal W R (gCons (gBin addD (gBin mulD (gVar 2) (gVar 4)) (gBin mulD (gVar 3) (gVar 5))) (gCons (gBin addD (gBin addD (gBin mulD (gVar 2) (gVar 5)) (gBin mulD (gVar 3) (gVar 4))) (gBin mulD (gVar 3) (gVar 5))) (gCons (gBin mulD (gBin ixD (gVar 0) (gC (.int 2))) (gBin ixD (gVar 1) (gC (.int 2)))) gNil))))))
def g_is_direction (W : WD) (R : Er → Prop) : GS :=
  (gRet (gAnd (gCall sp_is_integer W R (gCons (gVar 0) gNil)) (gChain leD leD (gC (.int 0)) (gVar 0) (gC (.int 4)))))
def g_phase_sign (W : WD) (R : Er → Prop) : GS :=
  (gSeq (gSetT [4, 5, 6] (gCall sp_raw_phase W R (gCons (gVar 0) (gCons (gVar 1) gNil))))
    (gSeq (gSet 7 (gCall sp_pair_sign W R (gCons (gBin subD (gVar 4) (gBin mulD (gVar 2) (gVar 6))) (gCons (gBin subD (gVar 5) (gBin mulD (gVar 3) (gVar 6))) gNil))))
    (gRet (gIf (gB (gBin neD (gVar 7) (gC (.int 0)))) (gVar 7) (gUn negD (gBin ixD (gFld fldO "side" (gVar 0)) (gBin ixD (gVar 1) (gC (.int 0)))))))))
def g_height_by (W : WD) (R : Er → Prop) : GS :=
  (gSeq (gPar [1, 2] (gCons (gBin ixD (gVar 0) (gC (.int 1))) (gCons (gBin ixD (gVar 0) (gC (.int 2))) gNil)))
    (gRet (gCall sp_normal W R (gCons (gBin subD (gBin subD (gBin mulD (gC (.int 4)) (gVar 1)) (gBin mulD (gC (.int 2)) (gVar 2))) (gC (.int 1))) (gCons (gBin subD (gBin addD (gBin mulD (gC (.int 2)) (gVar 1)) (gBin mulD (gC (.int 4)) (gVar 2))) (gC (.int 3))) (gCons (gC (.int 4)) gNil))))))
def g_whole_directions (W : WD) (R : Er → Prop) : GS :=
  (gRet (gBlt tupleD (gCons (gFrz (gLc (gRng1 (gCons (gC (.int 5)) gNil)) (ggName 1) (gTru (gCall sp_is_whole_number W (fun _ => False) (gCons (gBin ixD (gVar 0) (gVar 1)) gNil))) (gVar 1) [1])) gNil)))
def g__law_pick (W : WD) (R : Er → Prop) : GS :=
  (gRet (gBin ixD (gVar 1) (gCall sp__law_draw W R (gCons (gVar 0) (gCons (gBlt lenD (gCons (gVar 1) gNil)) gNil)))))
def g__law_number (W : WD) (R : Er → Prop) : GS :=
  (gSeq (gSet 1 (gCall sp__law_draw W R (gCons (gVar 0) (gCons (gC (.int 8)) gNil))))
    (gSeq (gIfS (gB (gBin ltD (gVar 1) (gC (.int 6)))) (gRet (gBin subD (gCall sp__law_draw W R (gCons (gVar 0) (gCons (gC (.int 25)) gNil))) (gC (.int 12)))) gSkip)
    (gSeq (gPar [2, 3] (gCons (gC (.int 0)) (gCons (gBin subD (gC (.int 1)) (gBin mulD (gC (.int 2)) (gCall sp__law_draw W R (gCons (gVar 0) (gCons (gC (.int 2)) gNil))))) gNil)))
    (gSeq (gFor (gRng1 (gCons (gIf (gB (gBin eqD (gVar 1) (gC (.int 6)))) (gC (.int 5)) (gC (.int 2))) gNil)) (ggName 4) (gSet 2 (gBin addD (gBin mulD (gVar 2) (gC (.int 1000000))) (gCall sp__law_draw W R (gCons (gVar 0) (gCons (gC (.int 1000000)) gNil))))))
    (gRet (gBin mulD (gVar 3) (gVar 2)))))))
def g__law_tie (W : WD) (R : Er → Prop) : GS :=
  (gSeq (gSet 3 (gCall sp__law_sign W R (gCons (gVar 0) (gCons (gVar 1) gNil))))
    (gRet (gIf (gB (gBin eqD (gVar 3) (gC (.int 0)))) (gUn negD (gVar 2)) (gVar 3))))
def g__law_under (W : WD) (R : Er → Prop) : GS :=
  (gSeq (gSet 3 (gIf (gB (gBin neD (gVar 1) (gC (.int 0)))) (gCall sp__law_root W R (gCons (gBin mulD (gBin mulD (gC (.int 5)) (gVar 1)) (gVar 1)) gNil)) (gC (.int 0))))
    (gRet (gBin fdivD (gBin addD (gBin addD (gBin mulD (gC (.int 2)) (gVar 0)) (gVar 1)) (gIf (gB (gBin geD (gVar 1) (gC (.int 0)))) (gVar 3) (gBin subD (gUn negD (gVar 3)) (gC (.int 1))))) (gBin mulD (gC (.int 2)) (gVar 2)))))
def g__law_golden (W : WD) (R : Er → Prop) : GS :=
  (gSeq (gSet 3 (gCall sp__law_common W R (gCons (gCall sp__law_common W R (gCons (gVar 2) (gCons (gBlt absD (gCons (gVar 0) gNil)) gNil))) (gCons (gBlt absD (gCons (gVar 1) gNil)) gNil))))
    (gRet (gTup (gCons (gBin fdivD (gVar 0) (gVar 3)) (gCons (gBin fdivD (gVar 1) (gVar 3)) (gCons (gBin fdivD (gVar 2) (gVar 3)) gNil))))))
def g__law_sides (W : WD) (R : Er → Prop) : GS :=
  (gSeq (gSet 2 (gCall sp__law_whole W R (gCons (gVar 0) (gCons (gVar 1) gNil))))
    (gSeq (gIfS (gB (gBin eqD (gVar 2) (gFrz (gLst gNil)))) (gRet (gFrz (gLst (gCons (gTup (gCons (gC (.int 0)) (gCons (gC (.int 0)) (gCons (gC (.int 0)) (gCons (gC (.int 0)) (gCons (gC (.int 0)) gNil)))))) gNil)))) gSkip)
    (gSeq (gIfS (gB (gBin eqD (gBlt lenD (gCons (gVar 2) gNil)) (gC (.int 1)))) (gRet (gFrz (gLc (gIter (gTup (gCons (gUn negD (gC (.int 1))) (gCons (gC (.int 1)) gNil)))) (ggName 6) gYes (gBlt tupleD (gCons (gFrz (gLc (gRng1 (gCons (gC (.int 5)) gNil)) (ggName 7) gYes (gIf (gB (gBin eqD (gVar 7) (gBin ixD (gVar 2) (gC (.int 0))))) (gVar 6) (gC (.int 0))) [7])) gNil)) [6]))) gSkip)
    (gSeq (gParR 3 4 (gTup (gCons (gC (.int 1)) (gCons (gUn negD (gC (.int 1))) (gCons (gC (.int 1)) (gCons (gC (.int 1)) (gCons (gUn negD (gC (.int 1))) gNil)))))) (gLst gNil))
    (gSeq (gFor (gRng1 (gCons (gC (.int 5)) gNil)) (ggName 5) (gSeq (gExt 4 (gFrz (gLst (gCons (gVar 3) (gCons (gBlt tupleD (gCons (gFrz (gLc (gIter (gVar 3)) (ggName 8) gYes (gUn negD (gVar 8)) [8])) gNil)) gNil)))))
    (gSet 3 (gBin addD (gSl slD (gVar 3) (gPart (gUn negD (gC (.int 1)))) gNoPart) (gSl slD (gVar 3) gNoPart (gPart (gUn negD (gC (.int 1)))))))))
    (gRet (gFrz (gBltF sortT (gCons (gVarB 4) gNil)))))))))
def g__law_compared (W : WD) (R : Er → Prop) : GS :=
  (gSeq (gSetT [2, 3, 4] (gVar 1))
    (gSeq (gSet 5 (gCall sp__law_bar_height W R (gCons (gVar 0) gNil)))
    (gRet (gCall sp__law_sign W R (gCons (gBin subD (gBin mulD (gBin ixD (gVar 5) (gC (.int 0))) (gVar 4)) (gBin mulD (gC (.int 4)) (gVar 2))) (gCons (gBin subD (gBin mulD (gBin ixD (gVar 5) (gC (.int 1))) (gVar 4)) (gBin mulD (gC (.int 4)) (gVar 3))) gNil))))))
def g_taken (W : WD) (R : Er → Prop) : GS :=
  (gRet (gCall sp_added W R (gCons (gVar 0) (gCons (gCall sp_negative W R (gCons (gVar 1) gNil)) gNil))))
def g_divided (W : WD) (R : Er → Prop) : GS :=
  (gSeq (gPar [2, 3] (gCons (gBin ixD (gVar 1) (gC (.int 0))) (gCons (gBin ixD (gVar 1) (gC (.int 1))) gNil)))
    (gSeq (gSet 4 (gCall sp_multiplied W R (gCons (gTup (gCons (gBin ixD (gVar 0) (gC (.int 0))) (gCons (gBin ixD (gVar 0) (gC (.int 1))) (gCons (gC (.int 1)) gNil)))) (gCons (gTup (gCons (gBin addD (gVar 2) (gVar 3)) (gCons (gUn negD (gVar 3)) (gCons (gC (.int 1)) gNil)))) gNil))))
    (gSeq (gSet 5 (gBin subD (gBin addD (gBin mulD (gVar 2) (gVar 2)) (gBin mulD (gVar 2) (gVar 3))) (gBin mulD (gVar 3) (gVar 3))))
    (gRet (gCall sp_normal W R (gCons (gBin mulD (gBin ixD (gVar 4) (gC (.int 0))) (gBin ixD (gVar 1) (gC (.int 2)))) (gCons (gBin mulD (gBin ixD (gVar 4) (gC (.int 1))) (gBin ixD (gVar 1) (gC (.int 2)))) (gCons (gBin mulD (gVar 5) (gBin ixD (gVar 0) (gC (.int 2)))) gNil))))))))
def g_floor_has_bar (W : WD) (R : Er → Prop) : GS :=
  (gRet (gAnd (gBin gtD (gCall sp_phase_sign W R (gCons (gVar 0) (gCons (gVar 1) (gCons (gC (.int 1)) (gCons (gUn negD (gC (.int 1))) gNil))))) (gC (.int 0))) (gBin ltD (gCall sp_phase_sign W R (gCons (gVar 0) (gCons (gVar 1) (gCons (gC (.int 1)) (gCons (gC (.int 0)) gNil))))) (gC (.int 0)))))
def g_is_long (W : WD) (R : Er → Prop) : GS :=
  (gRet (gBin gtD (gCall sp_phase_sign W R (gCons (gVar 0) (gCons (gVar 1) (gCons (gC (.int 0)) (gCons (gC (.int 0)) gNil))))) (gC (.int 0))))
def g_sides_of (W : WD) (R : Er → Prop) : GS :=
  (gSeq (gSet 1 (gCall sp_whole_directions W R (gCons (gVar 0) gNil)))
    (gSeq (gIfS (gB (gBin eqD (gBlt lenD (gCons (gVar 1) gNil)) (gC (.int 0)))) (gRet (gTup (gCons (gC (.tup [.int 0, .int 0, .int 0, .int 0, .int 0])) gNil))) gSkip)
    (gSeq (gIfS (gB (gBin eqD (gBlt lenD (gCons (gVar 1) gNil)) (gC (.int 1)))) (gSeq (gSet 4 (gBin ixD (gVar 1) (gC (.int 0))))
    (gSeq (gSet 5 (gBlt tupleD (gCons (gFrz (gLc (gRng1 (gCons (gC (.int 5)) gNil)) (ggName 6) gYes (gIf (gB (gBin eqD (gVar 6) (gVar 4))) (gC (.int 1)) (gC (.int 0))) [6])) gNil)))
    (gRet (gTup (gCons (gBlt tupleD (gCons (gFrz (gLc (gIter (gVar 5)) (ggName 7) gYes (gUn negD (gVar 7)) [7])) gNil)) (gCons (gVar 5) gNil)))))) gSkip)
    (gSeq (gSetL 2 (gLst gNil))
    (gSeq (gFor (gRng1 (gCons (gC (.int 5)) gNil)) (ggName 3) (gSeq (gSet 5 (gBlt tupleD (gCons (gFrz (gLc (gRng1 (gCons (gC (.int 5)) gNil)) (ggName 6) gYes (gBin ixD (gC (.tup [.int 1, .int (-1), .int 1, .int 1, .int (-1)])) (gBin modD (gBin subD (gVar 6) (gVar 3)) (gC (.int 5)))) [6])) gNil)))
    (gSeq (gApp 2 (gVar 5))
    (gApp 2 (gBlt tupleD (gCons (gFrz (gLc (gIter (gVar 5)) (ggName 7) gYes (gUn negD (gVar 7)) [7])) gNil))))))
    (gRet (gBlt tupleD (gCons (gFrz (gBltF sortT (gCons (gVarB 2) gNil))) gNil))))))))
def g_is_bar (W : WD) (R : Er → Prop) : GS :=
  (gSeq (gIfS (gOrT (gNotT (gTru (gBlt (isiX knownO) (gCons (gVar 0) (gCons (gC (.opq (.ty "tuple"))) gNil))))) (gB (gBin neD (gBlt lenD (gCons (gVar 0) gNil)) (gC (.int 3))))) (gRet (gC (.bl false))) gSkip)
    (gRet (gAnd (gCall sp_is_direction W R (gCons (gBin ixD (gVar 0) (gC (.int 0))) gNil)) (gAnd (gCall sp_is_integer W R (gCons (gBin ixD (gVar 0) (gC (.int 1))) gNil)) (gCall sp_is_integer W R (gCons (gBin ixD (gVar 0) (gC (.int 2))) gNil))))))
def g_need_direction (W : WD) (R : Er → Prop) : GS :=
  (gIfS (gNotT (gTru (gCall sp_is_direction W R (gCons (gVar 0) gNil)))) (gRaise "BadDirection" "thing" (gVar 0) R) gSkip)
def g_is_point (W : WD) (R : Er → Prop) : GS :=
  (gSeq (gIfS (gOrT (gNotT (gTru (gBlt (isiX knownO) (gCons (gVar 0) (gCons (gC (.opq (.ty "tuple"))) gNil))))) (gOrT (gB (gBin neD (gBlt lenD (gCons (gVar 0) gNil)) (gC (.int 5)))) (gNotT (gTru (gBlt allD (gCons (gFrz (gLc (gIter (gVar 0)) (ggName 2) gYes (gCall sp_is_number W (fun _ => False) (gCons (gVar 2) gNil)) [2])) gNil)))))) (gRet (gC (.bl false))) gSkip)
    (gSeq (gFor (gRng1 (gCons (gC (.int 5)) gNil)) (ggName 1) (gIfS (gB (gBin neD (gCall sp_compared W R (gCons (gCall sp_added W R (gCons (gBin ixD (gVar 0) (gBin subD (gVar 1) (gC (.int 1)))) (gCons (gBin ixD (gVar 0) (gBin modD (gBin addD (gVar 1) (gC (.int 1))) (gC (.int 5)))) gNil))) (gCons (gCall sp_times_less W R (gCons (gBin ixD (gVar 0) (gVar 1)) gNil)) gNil))) (gC (.int 0)))) (gRet (gC (.bl false))) gSkip))
    (gRet (gC (.bl true)))))
def g__law_world (W : WD) (R : Er → Prop) : GS :=
  (gSeq (gSet 2 (gCall sp__law_pick W R (gCons (gVar 0) (gCons (gTup (gCons (gC (.int 3)) (gCons (gC (.int 2)) (gCons (gC (.int 1)) (gCons (gC (.int 5)) (gCons (gC (.int 4)) (gCons (gC (.int 7)) (gCons (gC (.int 2)) (gCons (gC (.int 8)) (gCons (gC (.int 6)) (gCons (gC (.int 11)) (gCons (gC (.int 12)) (gCons (gC (.int 1)) (gCons (gC (.int 9)) (gCons (gC (.int 10)) (gCons (gC (.int 2)) (gCons (gC (.int 1000003)) gNil))))))))))))))))) gNil))))
    (gSeq (gSet 3 (gCall sp__law_draw W R (gCons (gVar 0) (gCons (gC (.int 5)) gNil))))
    (gSeq (gSet 4 (gTup (gCons (gCall sp__law_draw W R (gCons (gVar 0) (gCons (gVar 2) gNil))) (gCons (gCall sp__law_draw W R (gCons (gVar 0) (gCons (gVar 2) gNil))) gNil))))
    (gSeq (gIfS (gTru (gVar 1)) (gSet 4 (gTup (gCons (gC (.int 0)) (gCons (gC (.int 0)) gNil)))) gSkip)
    (gSeq (gSet 5 (gTup (gCons (gCall sp__law_draw W R (gCons (gVar 0) (gCons (gVar 2) gNil))) (gCons (gCall sp__law_draw W R (gCons (gVar 0) (gCons (gVar 2) gNil))) gNil))))
    (gSeq (gSet 4 (gTup (gCons (gBin addD (gBin ixD (gVar 4) (gC (.int 0))) (gBin mulD (gVar 2) (gCall sp__law_number W R (gCons (gVar 0) gNil)))) (gCons (gBin addD (gBin ixD (gVar 4) (gC (.int 1))) (gBin mulD (gVar 2) (gCall sp__law_number W R (gCons (gVar 0) gNil)))) gNil))))
    (gSeq (gSet 5 (gTup (gCons (gBin addD (gBin ixD (gVar 5) (gC (.int 0))) (gBin mulD (gVar 2) (gCall sp__law_number W R (gCons (gVar 0) gNil)))) (gCons (gBin addD (gBin ixD (gVar 5) (gC (.int 1))) (gBin mulD (gVar 2) (gCall sp__law_number W R (gCons (gVar 0) gNil)))) gNil))))
    (gSeq (gSet 6 (gCall sp__law_keys W R (gCons (gVar 3) (gCons (gVar 4) (gCons (gVar 5) gNil)))))
    (gRet (gTup (gCons (gVar 2) (gCons (gVar 6) (gCons (gCall sp__law_pick W R (gCons (gVar 0) (gCons (gCall sp__law_sides W R (gCons (gVar 2) (gCons (gVar 6) gNil))) gNil))) gNil)))))))))))))
def g__law_bar (W : WD) (R : Er → Prop) : GS :=
  (gSeq (gSetT [3, 4, 5] (gVar 0))
    (gSeq (gPar [6, 7] (gCons (gBin subD (gBin subD (gBin mulD (gVar 3) (gVar 2)) (gVar 3)) (gBin ixD (gBin ixD (gVar 4) (gVar 1)) (gC (.int 0)))) (gCons (gUn negD (gBin ixD (gBin ixD (gVar 4) (gVar 1)) (gC (.int 1)))) gNil)))
    (gSeq (gSet 8 (gCall sp__law_under W R (gCons (gBin subD (gVar 7) (gVar 6)) (gCons (gVar 6) (gCons (gVar 3) gNil)))))
    (gSeq (gSet 9 (gCall sp__law_phase W R (gCons (gVar 0) (gCons (gVar 1) (gCons (gVar 2) (gCons (gVar 8) gNil))))))
    (gSeq (gIfS (gB (gBin gtD (gCall sp__law_tie W R (gCons (gBin subD (gBin ixD (gVar 9) (gC (.int 0))) (gVar 3)) (gCons (gBin ixD (gVar 9) (gC (.int 1))) (gCons (gBin ixD (gVar 5) (gVar 1)) gNil)))) (gC (.int 0)))) (gSet 8 (gBin addD (gVar 8) (gC (.int 1)))) gSkip)
    (gRet (gTup (gCons (gVar 1) (gCons (gVar 8) (gCons (gBin subD (gVar 2) (gVar 8)) gNil))))))))))
def g__law_place (W : WD) (R : Er → Prop) : GS :=
  (gSeq (gSetT [3, 4, 5] (gVar 1))
    (gSeq (gIfS (gAndT (gB (gBin (inD false) (gVar 2) (gCall sp__law_whole W R (gCons (gVar 3) (gCons (gVar 4) gNil))))) (gB (gBin gtD (gCall sp__law_draw W R (gCons (gVar 0) (gCons (gC (.int 3)) gNil))) (gC (.int 0))))) (gRet (gBin subD (gBin addD (gBin fdivD (gBin ixD (gBin ixD (gVar 4) (gVar 2)) (gC (.int 0))) (gVar 3)) (gCall sp__law_draw W R (gCons (gVar 0) (gCons (gC (.int 7)) gNil)))) (gC (.int 3)))) gSkip)
    (gRet (gCall sp__law_number W R (gCons (gVar 0) gNil)))))
def g_next_bar (W : WD) (R : Er → Prop) : GS :=
  (gSeq (gSetT [2, 3, 4] (gVar 1))
    (gRet (gIf (gTru (gCall sp_is_long W R (gCons (gVar 0) (gCons (gVar 1) gNil)))) (gTup (gCons (gVar 2) (gCons (gBin addD (gVar 3) (gC (.int 1))) (gCons (gVar 4) gNil)))) (gTup (gCons (gVar 2) (gCons (gVar 3) (gCons (gBin addD (gVar 4) (gC (.int 1))) gNil)))))))
def g_bar_by (W : WD) (R : Er → Prop) : GS :=
  (gSeq (gSetT [3, 4, 5] (gBin ixD (gFld fldO "all_keys" (gVar 0)) (gVar 1)))
    (gSeq (gSet 6 (gBin addD (gCall sp_floor_integer W R (gCons (gCall sp_times_less W R (gCons (gTup (gCons (gBin subD (gBin mulD (gBin subD (gVar 2) (gC (.int 1))) (gVar 5)) (gVar 3)) (gCons (gUn negD (gVar 4)) (gCons (gVar 5) gNil)))) gNil)) gNil)) (gC (.int 1))))
    (gSeq (gSet 7 (gTup (gCons (gVar 1) (gCons (gVar 6) (gCons (gBin subD (gVar 2) (gVar 6)) gNil)))))
    (gSeq (gIfS (gTru (gCall sp_floor_has_bar W R (gCons (gVar 0) (gCons (gVar 7) gNil)))) (gRet (gVar 7)) gSkip)
    (gRet (gTup (gCons (gVar 1) (gCons (gBin subD (gVar 6) (gC (.int 1))) (gCons (gBin addD (gBin subD (gVar 2) (gVar 6)) (gC (.int 1))) gNil)))))))))
def g_point_with (W : WD) (R : Er → Prop) : GS :=
  (gSeq (gSetT [4, 5] (gCall sp_in_order W R (gCons (gVar 0) (gCons (gVar 2) gNil))))
    (gSeq (gSetL 6 (gBinF repF (gFrz (gLst (gCons (gC .non) gNil))) (gC (.int 5))))
    (gSeq (gSetG (ggT 2 (ggCons (ggItem 6 (gVar 0)) (ggCons (ggItem 6 (gVar 2)) ggNil))) (gTup (gCons (gVar 1) (gCons (gVar 3) gNil))))
    (gSeq (gIfS (gB (gBin eqD (gBin modD (gBin subD (gVar 5) (gVar 4)) (gC (.int 5))) (gC (.int 2)))) (gSeq (gSet 8 (gBin modD (gBin addD (gVar 4) (gC (.int 1))) (gC (.int 5))))
    (gSeq (gSetI 6 (gCall sp_times_g W R (gCons (gCall sp_added W R (gCons (gVar 1) (gCons (gVar 3) gNil))) gNil)) (gVar 8))
    (gSet 5 (gVar 8)))) gSkip)
    (gSeq (gFor (gRng1 (gCons (gC (.int 3)) gNil)) (ggName 7) (gSeq (gSet 9 (gBin modD (gBin addD (gVar 5) (gC (.int 1))) (gC (.int 5))))
    (gSeq (gSetI 6 (gCall sp_taken W R (gCons (gCall sp_times_less W R (gCons (gBin ixD (gVarB 6) (gVar 5)) gNil)) (gCons (gBin ixD (gVarB 6) (gVar 4)) gNil))) (gVar 9))
    (gPar [4, 5] (gCons (gVar 5) (gCons (gVar 9) gNil))))))
    (gFz 6 (gRet (gBlt tupleD (gCons (gFrz (gLc (gIter (gVar 6)) (ggName 10) gYes (gCall sp_normal W (fun _ => False) (gCons (gBin ixD (gVar 10) (gC (.int 0))) (gCons (gBin ixD (gVar 10) (gC (.int 1))) (gCons (gBin ixD (gVar 10) (gC (.int 2))) gNil)))) [10])) gNil)))))))))
def g_keys_from (W : WD) (R : Er → Prop) : GS :=
  (gSeq (gSetL 2 (gLst (gCons (gCall sp_normal W R (gCons (gBin ixD (gVar 0) (gC (.int 0))) (gCons (gBin ixD (gVar 0) (gC (.int 1))) (gCons (gBin ixD (gVar 0) (gC (.int 2))) gNil)))) (gCons (gCall sp_normal W R (gCons (gBin ixD (gVar 1) (gC (.int 0))) (gCons (gBin ixD (gVar 1) (gC (.int 1))) (gCons (gBin ixD (gVar 1) (gC (.int 2))) gNil)))) gNil))))
    (gSeq (gFor (gRng2 (gCons (gC (.int 1)) (gCons (gC (.int 4)) gNil))) (ggName 3) (gApp 2 (gCall sp_taken W R (gCons (gCall sp_negative W R (gCons (gCall sp_times_g W R (gCons (gBin ixD (gVarB 2) (gVar 3)) gNil)) gNil)) (gCons (gBin ixD (gVarB 2) (gBin subD (gVar 3) (gC (.int 1)))) gNil)))))
    (gRet (gBlt tupleD (gCons (gVarB 2) gNil)))))
def g_is_side (W : WD) (R : Er → Prop) : GS :=
  (gSeq (gIfS (gOrT (gNotT (gTru (gBlt (isiX knownO) (gCons (gVar 1) (gCons (gC (.opq (.ty "tuple"))) gNil))))) (gOrT (gB (gBin neD (gBlt lenD (gCons (gVar 1) gNil)) (gC (.int 5)))) (gNotT (gTru (gBlt allD (gCons (gFrz (gLc (gIter (gVar 1)) (ggName 2) gYes (gCall sp_is_integer W (fun _ => False) (gCons (gVar 2) gNil)) [2])) gNil)))))) (gRet (gC (.bl false))) gSkip)
    (gRet (gBin (inD false) (gVar 1) (gCall sp_sides_of W R (gCons (gVar 0) gNil)))))
def g_need_bar (W : WD) (R : Er → Prop) : GS :=
  (gIfS (gNotT (gTru (gCall sp_is_bar W R (gCons (gVar 0) gNil)))) (gRaise "BadBar" "thing" (gVar 0) R) gSkip)
def g_has_bar (W : WD) (R : Er → Prop) : GS :=
  (gRet (gAnd (gCall sp_is_bar W R (gCons (gVar 1) gNil)) (gCall sp_floor_has_bar W R (gCons (gVar 0) (gCons (gVar 1) gNil)))))
def g__law_below (W : WD) (R : Er → Prop) : GS :=
  (gSeq (gSetT [3, 4, 5] (gVar 0))
    (gSeq (gSetT [6, 7, 8] (gVar 2))
    (gSeq (gSet 9 (gBin addD (gBin mulD (gBin mulD (gC (.int 4)) (gVar 6)) (gVar 3)) (gBin mulD (gVar 8) (gBin addD (gBin subD (gBin mulD (gC (.int 3)) (gVar 3)) (gBin mulD (gC (.int 4)) (gBin ixD (gBin ixD (gVar 4) (gVar 1)) (gC (.int 1))))) (gBin mulD (gC (.int 2)) (gBin ixD (gBin ixD (gVar 4) (gVar 1)) (gC (.int 0))))))))
    (gSeq (gSet 10 (gBin subD (gBin mulD (gBin mulD (gC (.int 4)) (gVar 7)) (gVar 3)) (gBin mulD (gVar 8) (gBin addD (gBin addD (gVar 3) (gBin mulD (gC (.int 4)) (gBin ixD (gBin ixD (gVar 4) (gVar 1)) (gC (.int 0))))) (gBin mulD (gC (.int 2)) (gBin ixD (gBin ixD (gVar 4) (gVar 1)) (gC (.int 1))))))))
    (gSeq (gSet 11 (gCall sp__law_under W R (gCons (gVar 9) (gCons (gVar 10) (gCons (gBin mulD (gBin mulD (gC (.int 10)) (gVar 3)) (gVar 8)) gNil)))))
    (gSeq (gSet 12 (gBin subD (gBin addD (gVar 11) (gCall sp__law_under W R (gCons (gBin subD (gBin ixD (gBin ixD (gVar 4) (gVar 1)) (gC (.int 0))) (gBin mulD (gVar 3) (gVar 11))) (gCons (gBin addD (gBin ixD (gBin ixD (gVar 4) (gVar 1)) (gC (.int 1))) (gBin mulD (gVar 3) (gVar 11))) (gCons (gVar 3) gNil))))) (gC (.int 3))))
    (gSeq (gFor (gRng1 (gCons (gC (.int 12)) gNil)) (ggName 13) (gIfS (gB (gBin leD (gCall sp__law_compared W R (gCons (gCall sp__law_bar W R (gCons (gVar 0) (gCons (gVar 1) (gCons (gBin addD (gVar 12) (gC (.int 1))) gNil)))) (gCons (gVar 2) gNil))) (gC (.int 0)))) (gSet 12 (gBin addD (gVar 12) (gC (.int 1)))) gSkip))
    (gRet (gVar 12)))))))))
def g__law_height (W : WD) (R : Er → Prop) : GS :=
  (gSeq (gSetT [4, 5] (gCall sp__law_bar_height W R (gCons (gCall sp__law_bar W R (gCons (gVar 1) (gCons (gVar 2) (gCons (gVar 3) gNil)))) gNil)))
    (gSeq (gSet 6 (gCall sp__law_pick W R (gCons (gVar 0) (gCons (gTup (gCons (gC (.int 1)) (gCons (gC (.int 1)) (gCons (gC (.int 2)) (gCons (gC (.int 3)) (gCons (gC (.int 25)) gNil)))))) gNil))))
    (gSeq (gIfS (gB (gBin eqD (gCall sp__law_draw W R (gCons (gVar 0) (gCons (gC (.int 2)) gNil))) (gC (.int 0)))) (gRet (gTup (gCons (gBin mulD (gVar 4) (gVar 6)) (gCons (gBin mulD (gVar 5) (gVar 6)) (gCons (gBin mulD (gC (.int 4)) (gVar 6)) gNil))))) gSkip)
    (gRet (gTup (gCons (gBin subD (gBin addD (gBin mulD (gVar 4) (gVar 6)) (gCall sp__law_draw W R (gCons (gVar 0) (gCons (gC (.int 9)) gNil)))) (gC (.int 4))) (gCons (gBin subD (gBin addD (gBin mulD (gVar 5) (gVar 6)) (gCall sp__law_draw W R (gCons (gVar 0) (gCons (gC (.int 5)) gNil)))) (gC (.int 2))) (gCons (gBin mulD (gC (.int 4)) (gVar 6)) gNil))))))))
def g_bar_below_by (W : WD) (R : Er → Prop) : GS :=
  (gSeq (gSet 3 (gBin ixD (gFld fldO "all_keys" (gVar 0)) (gVar 1)))
    (gSeq (gSet 4 (gCall sp_taken W R (gCons (gCall sp_added W R (gCons (gCall sp_added W R (gCons (gVar 2) (gCons (gVar 2) gNil))) (gCons (gTup (gCons (gC (.int 1)) (gCons (gC (.int 3)) (gCons (gC (.int 2)) gNil)))) gNil))) (gCons (gCall sp_multiplied W R (gCons (gTup (gCons (gUn negD (gC (.int 1))) (gCons (gC (.int 2)) (gCons (gC (.int 1)) gNil)))) (gCons (gVar 3) gNil))) gNil))))
    (gSeq (gSet 5 (gCall sp_floor_integer W R (gCons (gCall sp_divided W R (gCons (gVar 4) (gCons (gTup (gCons (gC (.int 5)) (gCons (gC (.int 0)) (gCons (gC (.int 1)) gNil)))) gNil))) gNil)))
    (gSeq (gSet 6 (gCall sp_bar_by W R (gCons (gVar 0) (gCons (gVar 1) (gCons (gBin addD (gVar 5) (gCall sp_floor_integer W R (gCons (gCall sp_added W R (gCons (gTup (gCons (gUn negD (gVar 5)) (gCons (gVar 5) (gCons (gC (.int 1)) gNil)))) (gCons (gVar 3) gNil))) gNil))) gNil)))))
    (gSeq (gWhile (gB (gBin gtD (gCall sp_compared W R (gCons (gCall sp_height_by W R (gCons (gVar 6) gNil)) (gCons (gVar 2) gNil))) (gC (.int 0)))) (gSet 6 (gCall sp_bar_by W R (gCons (gVar 0) (gCons (gVar 1) (gCons (gBin subD (gBin addD (gBin ixD (gVar 6) (gC (.int 1))) (gBin ixD (gVar 6) (gC (.int 2)))) (gC (.int 1))) gNil))))))
    (gSeq (gSet 7 (gCall sp_next_bar W R (gCons (gVar 0) (gCons (gVar 6) gNil))))
    (gSeq (gWhile (gB (gBin leD (gCall sp_compared W R (gCons (gCall sp_height_by W R (gCons (gVar 7) gNil)) (gCons (gVar 2) gNil))) (gC (.int 0)))) (gPar [6, 7] (gCons (gVar 7) (gCons (gCall sp_next_bar W R (gCons (gVar 0) (gCons (gVar 7) gNil))) gNil))))
    (gRet (gVar 6)))))))))
def g_Floor (W : WD) (R : Er → Prop) : GS :=
  (gSeq (gFor (gIter (gTup (gCons (gVar 1) (gCons (gVar 2) gNil)))) (ggName 4) (gIfS (gNotT (gTru (gCall sp_is_number W R (gCons (gVar 4) gNil)))) (gRaise "BadNumber" "thing" (gVar 4) R) gSkip))
    (gSeq (gSet 5 (gCall sp_keys_from W R (gCons (gVar 1) (gCons (gVar 2) gNil))))
    (gSeq (gIfS (gNotT (gTru (gCall sp_is_side W R (gCons (gVar 5) (gCons (gVar 3) gNil))))) (gRaise "BadSide" "thing" (gVar 3) R) gSkip)
    (gSeq (gSetF fldO 0 "all_keys" (gVar 5))
    (gSetF fldO 0 "side" (gVar 3))))))
def g_phase_of (W : WD) (R : Er → Prop) : GS :=
  (gSeq (gDrop (gCall sp_need_bar W R (gCons (gVar 1) gNil)))
    (gSeq (gSetT [2, 3, 4] (gCall sp_raw_phase W R (gCons (gVar 0) (gCons (gVar 1) gNil))))
    (gRet (gCall sp_normal W R (gCons (gVar 2) (gCons (gVar 3) (gCons (gVar 4) gNil)))))))
def g_height_of (W : WD) (R : Er → Prop) : GS :=
  (gSeq (gDrop (gCall sp_need_bar W R (gCons (gVar 0) gNil)))
    (gRet (gCall sp_height_by W R (gCons (gVar 0) gNil))))
def g_crossing_of (W : WD) (R : Er → Prop) : GS :=
  (gSeq (gDrop (gCall sp_need_bar W R (gCons (gVar 0) gNil)))
    (gSeq (gDrop (gCall sp_need_bar W R (gCons (gVar 1) gNil)))
    (gSeq (gIfS (gB (gBin eqD (gBin ixD (gVar 0) (gC (.int 0))) (gBin ixD (gVar 1) (gC (.int 0))))) (gRaise "BadBar" "thing" (gVar 1) R) gSkip)
    (gRet (gCall sp_point_with W R (gCons (gBin ixD (gVar 0) (gC (.int 0))) (gCons (gCall sp_height_by W R (gCons (gVar 0) gNil)) (gCons (gBin ixD (gVar 1) (gC (.int 0))) (gCons (gCall sp_height_by W R (gCons (gVar 1) gNil)) gNil)))))))))
def g_bar_below (W : WD) (R : Er → Prop) : GS :=
  (gSeq (gDrop (gCall sp_need_direction W R (gCons (gVar 1) gNil)))
    (gSeq (gIfS (gNotT (gTru (gCall sp_is_number W R (gCons (gVar 2) gNil)))) (gRaise "BadNumber" "thing" (gVar 2) R) gSkip)
    (gRet (gCall sp_bar_below_by W R (gCons (gVar 0) (gCons (gVar 1) (gCons (gVar 2) gNil)))))))
def g_bars_between (W : WD) (R : Er → Prop) : GS :=
  (gSeq (gDrop (gCall sp_need_direction W R (gCons (gVar 1) gNil)))
    (gSeq (gFor (gIter (gTup (gCons (gVar 2) (gCons (gVar 3) gNil)))) (ggName 5) (gIfS (gNotT (gTru (gCall sp_is_number W R (gCons (gVar 5) gNil)))) (gRaise "BadNumber" "thing" (gVar 5) R) gSkip))
    (gSeq (gParR 6 7 (gCall sp_bar_below_by W R (gCons (gVar 0) (gCons (gVar 1) (gCons (gVar 2) gNil)))) (gLst gNil))
    (gSeq (gIfS (gB (gBin ltD (gCall sp_compared W R (gCons (gCall sp_height_by W R (gCons (gVar 6) gNil)) (gCons (gVar 2) gNil))) (gC (.int 0)))) (gSet 6 (gCall sp_next_bar W R (gCons (gVar 0) (gCons (gVar 6) gNil)))) gSkip)
    (gSeq (gWhile (gB (gBin leD (gCall sp_compared W R (gCons (gCall sp_height_by W R (gCons (gVar 6) gNil)) (gCons (gVar 3) gNil))) (gC (.int 0)))) (gSeq (gIfS (gB (gBin eqD (gBlt lenD (gCons (gVarB 7) gNil)) (gVar 4))) (gRaise "TooMany" "most" (gVar 4) R) gSkip)
    (gSeq (gApp 7 (gVar 6))
    (gSet 6 (gCall sp_next_bar W R (gCons (gVar 0) (gCons (gVar 6) gNil)))))))
    (gRet (gBlt tupleD (gCons (gVarB 7) gNil))))))))
def g__law_is_crossing_right (W : WD) (R : Er → Prop) : GS :=
  (gSeq (gSet 1 (gTup (gCons (gCall sp__law_draw W R (gCons (gVar 0) (gCons (gC (.int 5)) gNil))) (gCons (gCall sp__law_number W R (gCons (gVar 0) gNil)) (gCons (gCall sp__law_number W R (gCons (gVar 0) gNil)) gNil)))))
    (gSeq (gSet 2 (gTup (gCons (gBin modD (gBlt intB (gCons (gBin addD (gBin addD (gBin ixD (gVar 1) (gC (.int 0))) (gC (.int 1))) (gCall sp__law_draw W R (gCons (gVar 0) (gCons (gC (.int 4)) gNil)))) gNil)) (gC (.int 5))) (gCons (gCall sp__law_number W R (gCons (gVar 0) gNil)) (gCons (gCall sp__law_number W R (gCons (gVar 0) gNil)) gNil)))))
    (gSeq (gFor (gIter (gTup (gCons (gVar 1) (gCons (gVar 2) gNil)))) (ggName 3) (gSeq (gSetT [11, 12] (gCall sp__law_bar_height W R (gCons (gVar 3) gNil)))
    (gIfS (gNotT (gTru (gCall sp__law_same W R (gCons (gTup (gCons (gCall sp_height_of W R (gCons (gVar 3) gNil)) (gCons (gCallK sp_height_of 0 1 [0] W R gNil (gCons (gVar 3) gNil)) gNil))) (gCons (gTup (gCons (gCall sp__law_golden W R (gCons (gVar 11) (gCons (gVar 12) (gCons (gC (.int 4)) gNil)))) (gCons (gCall sp__law_golden W R (gCons (gVar 11) (gCons (gVar 12) (gCons (gC (.int 4)) gNil)))) gNil))) gNil))))) (gRet (gC (.bl false))) gSkip)))
    (gSeq (gSetT [4, 5] (gIf (gB (gBin ltD (gBin modD (gBlt intB (gCons (gBin subD (gBin ixD (gVar 2) (gC (.int 0))) (gBin ixD (gVar 1) (gC (.int 0)))) gNil)) (gC (.int 5))) (gC (.int 3)))) (gTup (gCons (gVar 1) (gCons (gVar 2) gNil))) (gTup (gCons (gVar 2) (gCons (gVar 1) gNil)))))
    (gSeq (gPar [6, 7] (gCons (gCall sp__law_bar_height W R (gCons (gVar 4) gNil)) (gCons (gCall sp__law_bar_height W R (gCons (gVar 5) gNil)) gNil)))
    (gSeq (gIfS (gB (gBin eqD (gBin modD (gBlt intB (gCons (gBin subD (gBin ixD (gVar 5) (gC (.int 0))) (gBin ixD (gVar 4) (gC (.int 0)))) gNil)) (gC (.int 5))) (gC (.int 2)))) (gSet 7 (gTup (gCons (gBin addD (gBin ixD (gVar 6) (gC (.int 1))) (gBin ixD (gVar 7) (gC (.int 1)))) (gCons (gBin addD (gBin addD (gBin addD (gBin ixD (gVar 6) (gC (.int 0))) (gBin ixD (gVar 6) (gC (.int 1)))) (gBin ixD (gVar 7) (gC (.int 0)))) (gBin ixD (gVar 7) (gC (.int 1)))) gNil)))) gSkip)
    (gSeq (gSetL 8 (gBinF repF (gFrz (gLst (gCons (gTup (gCons (gC (.int 0)) (gCons (gC (.int 0)) (gCons (gC (.int 1)) gNil)))) gNil))) (gC (.int 5))))
    (gSeq (gFor (gRng1 (gCons (gC (.int 5)) gNil)) (ggName 9) (gSeq (gSetI 8 (gCall sp__law_golden W R (gCons (gBin ixD (gVar 6) (gC (.int 0))) (gCons (gBin ixD (gVar 6) (gC (.int 1))) (gCons (gC (.int 4)) gNil)))) (gBin modD (gBlt intB (gCons (gBin addD (gBin ixD (gVar 4) (gC (.int 0))) (gVar 9)) gNil)) (gC (.int 5))))
    (gPar [6, 7] (gCons (gVar 7) (gCons (gTup (gCons (gBin subD (gBin subD (gBin ixD (gVar 7) (gC (.int 1))) (gBin ixD (gVar 7) (gC (.int 0)))) (gBin ixD (gVar 6) (gC (.int 0)))) (gCons (gBin subD (gBin ixD (gVar 7) (gC (.int 0))) (gBin ixD (gVar 6) (gC (.int 1)))) gNil))) gNil)))))
    (gSeq (gSet 10 (gCall sp_crossing_of W R (gCons (gVar 1) (gCons (gVar 2) gNil))))
    (gSeq (gIfS (gOrT (gNotT (gTru (gCall sp__law_same W R (gCons (gVar 10) (gCons (gBlt tupleD (gCons (gVarB 8) gNil)) gNil))))) (gNotT (gTru (gCall sp__law_same W R (gCons (gCallK sp_crossing_of 0 2 [1, 0] W R gNil (gCons (gVar 1) (gCons (gVar 2) gNil))) (gCons (gVar 10) gNil)))))) (gRet (gC (.bl false))) gSkip)
    (gRet (gCall sp__law_same W R (gCons (gCall sp_is_point W R (gCons (gVar 10) gNil)) (gCons (gC (.bl true)) gNil))))))))))))))
def g__law_floor (W : WD) (R : Er → Prop) : GS :=
  (gSeq (gSetT [2, 3, 4] (gVar 1))
    (gSeq (gSet 5 (gCall sp__law_pick W R (gCons (gVar 0) (gCons (gTup (gCons (gC (.int 1)) (gCons (gC (.int 1)) (gCons (gC (.int 2)) (gCons (gC (.int 3)) gNil))))) gNil))))
    (gSeq (gPar [6, 7] (gCons (gTup (gCons (gBin mulD (gBin ixD (gBin ixD (gVar 3) (gC (.int 0))) (gC (.int 0))) (gVar 5)) (gCons (gBin mulD (gBin ixD (gBin ixD (gVar 3) (gC (.int 0))) (gC (.int 1))) (gVar 5)) (gCons (gBin mulD (gVar 2) (gVar 5)) gNil)))) (gCons (gTup (gCons (gBin mulD (gBin ixD (gBin ixD (gVar 3) (gC (.int 1))) (gC (.int 0))) (gVar 5)) (gCons (gBin mulD (gBin ixD (gBin ixD (gVar 3) (gC (.int 1))) (gC (.int 1))) (gVar 5)) (gCons (gBin mulD (gVar 2) (gVar 5)) gNil)))) gNil)))
    (gSeq (gIfS (gAndT (gB (gBin eqD (gVar 4) (gTup (gCons (gC (.int 0)) (gCons (gC (.int 0)) (gCons (gC (.int 0)) (gCons (gC (.int 0)) (gCons (gC (.int 0)) gNil)))))))) (gB (gBin eqD (gVar 5) (gC (.int 1))))) (gRet (gMake sp_Floor [.tup [.int 0, .int 0, .int 0, .int 0, .int 0]] 2 0 [0, 1, 2] W R (gCons (gVar 6) (gCons (gVar 7) gNil)) gNil)) gSkip)
    (gRet (gMake sp_Floor [.tup [.int 0, .int 0, .int 0, .int 0, .int 0]] 1 2 [0, 3, 2] W R (gCons (gVar 6) gNil) (gCons (gVar 4) (gCons (gVar 7) gNil))))))))
def g__law_told (W : WD) (R : Er → Prop) : GS :=
  (gTry clsM 6 R (fun R => (gSeq (gIfS (gB (gBin eqD (gVar 4) (gC (.int 400)))) (gRet (gCallW sp_bars_between 400 W R (gCons (gVar 0) (gCons (gVar 1) (gCons (gVar 2) (gCons (gVar 3) gNil)))))) gSkip)
    (gRet (gCallK sp_bars_between 0 5 [3, 2, 0, 1, 4] W R gNil (gCons (gVar 2) (gCons (gVar 3) (gCons (gVar 1) (gCons (gVar 0) (gCons (gVar 4) gNil))))))))) [⟨"TooMany", some 5, fun er a => (gRet (gTup (gCons (gC (.str "TooMany")) (gCons (gErF knownE_most "most" 5 er a) gNil))))⟩])
def g_law (W : WD) (R : Er → Prop) : GS :=
  (gSeq (gSet 2 (gCall sp__law_world W R (gCons (gVar 1) (gCons (gBin eqD (gCall sp__law_draw W R (gCons (gVar 1) (gCons (gC (.int 3)) gNil))) (gC (.int 0))) gNil))))
    (gSeq (gSetT [3, 4] (gTup (gCons (gCall sp__law_floor W R (gCons (gVar 1) (gCons (gVar 2) gNil))) (gCons (gCall sp__law_draw W R (gCons (gVar 1) (gCons (gC (.int 5)) gNil))) gNil))))
    (gSeq (gSet 5 (gCall sp__law_place W R (gCons (gVar 1) (gCons (gVar 2) (gCons (gVar 4) gNil)))))
    (gSeq (gSet 6 (gCall sp__law_height W R (gCons (gVar 1) (gCons (gVar 2) (gCons (gVar 4) (gCons (gVar 5) gNil))))))
    (gSeq (gSet 7 (gCall sp__law_pick W R (gCons (gVar 1) (gCons (gTup (gCons (gC (.int 3)) (gCons (gC (.int 6)) (gCons (gC (.int 0)) (gCons (gC (.int 12)) (gCons (gC (.int 1)) (gCons (gC (.int 20)) (gCons (gC (.int 2)) (gCons (gC (.int 40)) (gCons (gUn negD (gC (.int 1))) (gCons (gC (.int 4)) (gCons (gC (.int 8)) (gCons (gC (.int 410)) gNil))))))))))))) gNil))))
    (gSeq (gIfS (gB (gBin eqD (gVar 7) (gC (.int 410)))) (gSet 7 (gCall sp__law_pick W R (gCons (gVar 1) (gCons (gTup (gCons (gC (.int 399)) (gCons (gC (.int 400)) (gCons (gC (.int 410)) (gCons (gC (.int 398)) gNil))))) gNil)))) gSkip)
    (gSeq (gSet 8 (gCall sp__law_height W R (gCons (gVar 1) (gCons (gVar 2) (gCons (gVar 4) (gCons (gBin addD (gVar 5) (gVar 7)) gNil))))))
    (gSeq (gPar [9, 10] (gCons (gCall sp__law_below W R (gCons (gVar 2) (gCons (gVar 4) (gCons (gVar 6) gNil)))) (gCons (gCall sp__law_below W R (gCons (gVar 2) (gCons (gVar 4) (gCons (gVar 8) gNil)))) gNil)))
    (gSeq (gIfS (gNotT (gTru (gCall sp__law_same W R (gCons (gCall sp_bar_below W R (gCons (gVar 3) (gCons (gVar 4) (gCons (gVar 6) gNil)))) (gCons (gCall sp__law_bar W R (gCons (gVar 2) (gCons (gVar 4) (gCons (gVar 9) gNil)))) gNil))))) (gRet (gC (.bl false))) gSkip)
    (gSeq (gIfS (gNotT (gTru (gCall sp__law_same W R (gCons (gCallK sp_bar_below 0 3 [1, 2, 0] W R gNil (gCons (gVar 8) (gCons (gVar 3) (gCons (gVar 4) gNil)))) (gCons (gCall sp__law_bar W R (gCons (gVar 2) (gCons (gVar 4) (gCons (gVar 10) gNil)))) gNil))))) (gRet (gC (.bl false))) gSkip)
    (gSeq (gIfS (gB (gBin ltD (gCall sp__law_compared W R (gCons (gCall sp__law_bar W R (gCons (gVar 2) (gCons (gVar 4) (gCons (gVar 9) gNil)))) (gCons (gVar 6) gNil))) (gC (.int 0)))) (gSet 9 (gBin addD (gVar 9) (gC (.int 1)))) gSkip)
    (gSeq (gSet 11 (gBlt tupleD (gCons (gFrz (gLc (gRng2B (gCons (gVar 9) (gCons (gBin addD (gVar 10) (gC (.int 1))) gNil))) (ggName 20) gYes (gCall sp__law_bar W (fun _ => False) (gCons (gVar 2) (gCons (gVar 4) (gCons (gVar 20) gNil)))) [20])) gNil)))
    (gSeq (gFor (gIter (gTup (gCons (gC (.int 400)) (gCons (gBlt lenD (gCons (gVar 11) gNil)) (gCons (gBin subD (gBlt lenD (gCons (gVar 11) gNil)) (gC (.int 1))) (gCons (gBin addD (gBlt lenD (gCons (gVar 11) gNil)) (gCall sp__law_draw W R (gCons (gVar 1) (gCons (gC (.int 3)) gNil)))) gNil)))))) (ggName 12) (gIfS (gB (gBin geD (gVar 12) (gC (.int 0)))) (gSeq (gSet 19 (gCall sp__law_told W R (gCons (gVar 3) (gCons (gVar 4) (gCons (gVar 6) (gCons (gVar 8) (gCons (gVar 12) gNil)))))))
    (gIfS (gNotT (gTru (gCall sp__law_same W R (gCons (gVar 19) (gCons (gIf (gB (gBin leD (gBlt lenD (gCons (gVar 11) gNil)) (gVar 12))) (gVar 11) (gTup (gCons (gC (.str "TooMany")) (gCons (gVar 12) gNil)))) gNil))))) (gRet (gC (.bl false))) gSkip)) gSkip))
    (gSeq (gFor (gRng1 (gCons (gC (.int 3)) gNil)) (ggName 13) (gSeq (gIfS (gNotT (gTru (gCall sp__law_is_crossing_right W R (gCons (gVar 1) gNil)))) (gRet (gC (.bl false))) gSkip)
    (gSeq (gSet 14 (gCall sp__law_draw W R (gCons (gVar 1) (gCons (gC (.int 5)) gNil))))
    (gSeq (gSet 15 (gTup (gCons (gVar 14) (gCons (gCall sp__law_number W R (gCons (gVar 1) gNil)) (gCons (gCall sp__law_number W R (gCons (gVar 1) gNil)) gNil)))))
    (gSeq (gIfS (gB (gBin gtD (gVar 13) (gC (.int 0)))) (gSet 15 (gCall sp__law_bar W R (gCons (gVar 2) (gCons (gVar 14) (gCons (gCall sp__law_place W R (gCons (gVar 1) (gCons (gVar 2) (gCons (gVar 14) gNil)))) gNil))))) gSkip)
    (gSeq (gIfS (gB (gBin eqD (gVar 13) (gC (.int 2)))) (gSet 15 (gTup (gCons (gVar 14) (gCons (gBin addD (gBin ixD (gVar 15) (gC (.int 1))) (gC (.int 1))) (gCons (gBin subD (gBin ixD (gVar 15) (gC (.int 2))) (gC (.int 1))) gNil))))) gSkip)
    (gSeq (gSetT [16, 17] (gCall sp__law_phase W R (gCons (gVar 2) (gCons (gVar 14) (gCons (gBin addD (gBin ixD (gVar 15) (gC (.int 1))) (gBin ixD (gVar 15) (gC (.int 2)))) (gCons (gBin ixD (gVar 15) (gC (.int 1))) gNil))))))
    (gSeq (gIfS (gNotT (gTru (gCall sp__law_same W R (gCons (gCall sp_phase_of W R (gCons (gVar 3) (gCons (gVar 15) gNil))) (gCons (gCall sp__law_golden W R (gCons (gVar 16) (gCons (gVar 17) (gCons (gBin ixD (gVar 2) (gC (.int 0))) gNil)))) gNil))))) (gRet (gC (.bl false))) gSkip)
    (gSeq (gSet 18 (gBin eqD (gVar 15) (gCall sp__law_bar W R (gCons (gVar 2) (gCons (gVar 14) (gCons (gBin addD (gBin ixD (gVar 15) (gC (.int 1))) (gBin ixD (gVar 15) (gC (.int 2)))) gNil))))))
    (gIfS (gNotT (gTru (gCall sp__law_same W R (gCons (gTup (gCons (gCall sp_has_bar W R (gCons (gVar 3) (gCons (gVar 15) gNil))) (gCons (gCallK sp_has_bar 0 2 [1, 0] W R gNil (gCons (gVar 15) (gCons (gVar 3) gNil))) gNil))) (gCons (gTup (gCons (gVar 18) (gCons (gVar 18) gNil))) gNil))))) (gRet (gC (.bl false))) gSkip))))))))))
    (gRet (gC (.bl true)))))))))))))))))
local macro_rules | `(tactic| decreasing_trivial_pre_omega) => `(tactic| ((first | refine fld_k ?_ | refine fld_s ?_ | refine Exists.intro _ (And.intro rfl ?_) | refine And.intro rfl ?_ | refine And.intro (of_decide_eq_true rfl) ?_ | refine Exists.intro _ (Exists.intro _ (And.intro rfl (And.intro rfl ?_))) | refine Exists.intro _ (Exists.intro _ (Exists.intro _ (And.intro rfl (And.intro rfl (And.intro rfl ?_))))) | refine Exists.intro _ (Exists.intro _ (And.intro rfl ?_)) | refine Exists.intro _ (Exists.intro _ (Exists.intro _ (And.intro rfl ?_))) | refine Exists.intro _ (Exists.intro _ (Exists.intro _ (Exists.intro _ (And.intro rfl ?_))))) <;> (conv => whnf)))
theorem len_is_integer : ∀ W ds Q R, sp_is_integer W ds Q R → ds.length = 1 := by
  rintro W ds Q R ⟨x, rfl, _⟩
  rfl
theorem law_is_integer : ∀ W ds Q R, sp_is_integer W ds Q R → g_is_integer W R (endsD Q) (startD 1 ds) := by
  rintro W ds Q R ⟨x, rfl, h, q⟩
  simp [g_is_integer, startD, isiX, h, show knownT "int" = true by decide, show knownT "bool" = true by decide]
  cases x <;> simp_all [tyD, isiB, isTb, isI]
theorem len_normal : ∀ W ds Q R, sp_normal W ds Q R → ds.length = 3 := by
  rintro W ds Q R ⟨a, b, d, rfl, _⟩
  rfl
theorem law_normal : ∀ W ds Q R, sp_normal W ds Q R → g_normal W R (endsD Q) (startD 4 ds) := by
  rintro W ds Q R ⟨a, b, d, rfl, hd, h0, q⟩
  have hn := cdv_ne (a := a) (b := b) h0
  have hs : (cdv a b d).natAbs.log2 < 9000 := Nat.lt_of_le_of_lt (cdv_sz (a := a) (b := b) hd h0).log (by decide)
  have pp : ∀ i, DivPl i (cdv a b d) := fun i => .inl hs
  unfold red cdv at q
  unfold cdv at hn pp
  by_cases h : d < 0
  · rw [if_pos h] at q hn pp
    simp [g_normal, startD, endsD, gcdD, h]
    exact ⟨by simpa using hn, by simpa using pp a, by simpa using hn, by simpa using pp b, by simpa using hn, by simpa using pp d, by simpa using q⟩
  · rw [if_neg h] at q hn pp
    simp [g_normal, startD, endsD, gcdD, h]
    exact ⟨by simpa using hn, by simpa using pp a, by simpa using hn, by simpa using pp b, by simpa using hn, by simpa using pp d, by simpa using q⟩
theorem len_pair_sign : ∀ W ds Q R, sp_pair_sign W ds Q R → ds.length = 2 := by
  rintro W ds Q R ⟨a, b, rfl, _⟩
  rfl
theorem law_pair_sign : ∀ W ds Q R, sp_pair_sign W ds Q R → g_pair_sign W R (endsD Q) (startD 4 ds) := by
  rintro W ds Q R ⟨a, b, rfl, ha, hb, q⟩
  obtain ⟨m1, m2, m3, m4⟩ := pair_sz ha hb
  simp [g_pair_sign, startD, m1, m2, m3, m4]
  unfold psg at q
  generalize 2 * a + b = x at q ⊢
  generalize 5 * b * b = y at q ⊢
  generalize x * x = z at q ⊢
  repeat' split
  all_goals simp_all
  all_goals first | omega | (split at q <;> first | exact q | omega) | skip
theorem len_negative : ∀ W ds Q R, sp_negative W ds Q R → ds.length = 1 := by
  rintro W ds Q R ⟨a, b, m, rfl, _⟩
  rfl
theorem law_negative : ∀ W ds Q R, sp_negative W ds Q R → g_negative W R (endsD Q) (startD 1 ds) := by
  rintro W ds Q R ⟨a, b, m, rfl, q⟩
  simp [g_negative, startD, q]
theorem len_times_g : ∀ W ds Q R, sp_times_g W ds Q R → ds.length = 1 := by
  rintro W ds Q R ⟨a, b, m, rfl, _⟩
  rfl
theorem law_times_g : ∀ W ds Q R, sp_times_g W ds Q R → g_times_g W R (endsD Q) (startD 1 ds) := by
  rintro W ds Q R ⟨a, b, m, rfl, q⟩
  simp [g_times_g, startD, q]
theorem len_times_less : ∀ W ds Q R, sp_times_less W ds Q R → ds.length = 1 := by
  rintro W ds Q R ⟨a, b, m, rfl, _⟩
  rfl
theorem law_times_less : ∀ W ds Q R, sp_times_less W ds Q R → g_times_less W R (endsD Q) (startD 1 ds) := by
  rintro W ds Q R ⟨a, b, m, rfl, q⟩
  simp [g_times_less, startD, q]
theorem len_is_whole_number : ∀ W ds Q R, sp_is_whole_number W ds Q R → ds.length = 1 := by
  rintro W ds Q R ⟨a, b, m, rfl, _⟩
  rfl
theorem law_is_whole_number : ∀ W ds Q R, sp_is_whole_number W ds Q R → g_is_whole_number W R (endsD Q) (startD 1 ds) := by
  rintro W ds Q R ⟨a, b, m, rfl, h, q⟩
  have h0 : 0 < m := by omega
  simp [g_is_whole_number, startD, h0]
  unfold wholeB at q
  split <;> simp_all
theorem len_floor_integer : ∀ W ds Q R, sp_floor_integer W ds Q R → ds.length = 1 := by
  rintro W ds Q R ⟨a, b, m, rfl, _⟩
  rfl
theorem law_floor_integer : ∀ W ds Q R, sp_floor_integer W ds Q R → g_floor_integer W R (endsD Q) (startD 5 ds) := by
  rintro W ds Q R ⟨a, b, m, rfl, h, q⟩
  obtain ⟨m1, m2, m3, m4, p0, p1, p2, p3⟩ := flr_sz h
  have p4 : 0 < 2 * m := by omega
  unfold flr at q
  by_cases hb : 0 ≤ b
  · simp_all [g_floor_integer, startD]
  · rw [if_neg hb] at q
    simp [g_floor_integer, startD, m1, m2, m3, m4, p0, p1, p2, p3, p4, hb, q]
theorem len_in_order : ∀ W ds Q R, sp_in_order W ds Q R → ds.length = 2 := by
  rintro W ds Q R ⟨r, s, rfl, _⟩
  rfl
theorem law_in_order : ∀ W ds Q R, sp_in_order W ds Q R → g_in_order W R (endsD Q) (startD 2 ds) := by
  rintro W ds Q R ⟨r, s, rfl, r0, r4, s0, s4, q⟩
  unfold g_in_order
  rcases five_of r0 r4 with rfl | rfl | rfl | rfl | rfl <;> rcases five_of s0 s4 with rfl | rfl | rfl | rfl | rfl
  all_goals
    ((conv => whnf); repeat decreasing_trivial_pre_omega)
    exact q
theorem len_raw_phase : ∀ W ds Q R, sp_raw_phase W ds Q R → ds.length = 2 := by
  rintro W ds Q R ⟨j, x, y, a, b, d, s, rfl, _⟩
  rfl
theorem law_raw_phase : ∀ W ds Q R, sp_raw_phase W ds Q R → g_raw_phase W R (endsD Q) (startD 8 ds) := by
  rintro W ds Q R ⟨j, x, y, a, b, d, s, rfl, h, j0, j4, hx, hy, q⟩
  obtain ⟨u, v, w, e, hn, e1, e2⟩ := h.fr j0 j4
  have qq := q u v w hn e1 e2
  unfold g_raw_phase
  conv => whnf
  refine ⟨_, rfl, rfl, ?_⟩
  conv => whnf
  refine fld_k ?_
  ((conv => whnf); repeat decreasing_trivial_pre_omega)
  refine ix_key (a := a) (b := b) (d := d) j0 j4 ?_
  rw [e]
  ((conv => whnf); repeat decreasing_trivial_pre_omega)
  refine ⟨(hx.add hy).ok hn.2.2.1 (by decide), ?_⟩
  ((conv => whnf); repeat decreasing_trivial_pre_omega)
  refine ⟨hx.neg.ok hn.2.2.1 (by decide), ?_⟩
  ((conv => whnf); repeat decreasing_trivial_pre_omega)
  exact qq
theorem len__law_sign : ∀ W ds Q R, sp__law_sign W ds Q R → ds.length = 2 := by
  rintro W ds Q R ⟨a, b, rfl, _⟩
  rfl
theorem law__law_sign : ∀ W ds Q R, sp__law_sign W ds Q R → g__law_sign W R (endsD Q) (startD 3 ds) := by
  rintro W ds Q R ⟨a, b, rfl, ha, hb, q⟩
  obtain ⟨m1, m2, m3, m4⟩ := pair_sz ha hb
  have tie := fun h => no_tie (x := 2 * a + b) (b := b) h
  unfold psg at q
  obtain ⟨X, eX⟩ : ∃ X, X = 2 * a + b := ⟨_, rfl⟩
  rw [← eX] at q m2 tie
  unfold g__law_sign
  conv => whnf
  refine ⟨m1, ?_⟩
  conv => whnf
  rw [← eX]
  have last : ¬ (0 ≤ X ∧ 0 ≤ b) → ¬ (X ≤ 0 ∧ b ≤ 0) → Q (.int ((if 0 < X then 1 else -1) * (if 5 * b * b < X * X then 1 else -1))) := fun c1 c2 => by
    rw [if_neg c1, if_neg c2] at q
    by_cases c3 : 0 < X
    · rw [if_pos c3] at q ⊢
      rw [Int.one_mul]
      exact q
    · rw [if_neg c3] at q ⊢
      split at q
      · rename_i c4
        rw [if_pos c4]
        exact q
      · rename_i c4
        rw [if_neg c4]
        exact q
  have third : ¬ (0 ≤ X ∧ 0 ≤ b) → ¬ (X ≤ 0 ∧ b ≤ 0) → gRet (gBin mulD (gIf (gB (gBin gtD (gVar 2) (gC (.int 0)))) (gC (.int 1)) (gUn negD (gC (.int 1)))) (gIf (gB (gBin gtD (gBin mulD (gVar 2) (gVar 2)) (gBin mulD (gBin mulD (gC (.int 5)) (gVar 1)) (gVar 1)))) (gC (.int 1)) (gUn negD (gC (.int 1))))) (endsD Q) [.d (.int a), .d (.int b), .d (.int X)] := fun c1 c2 => by
    have l := last c1 c2
    conv => whnf
    have mm : ∀ u v : Int, Sz 2 u → Sz 2 v → MulOk u v := fun u v h k => h.ok k (by decide)
    by_cases c3 : 0 < X
    · rw [show decide (X > 0) = true from decide_eq_true c3]
      rw [if_pos c3] at l
      conv => whnf
      refine ⟨m2, ?_⟩
      conv => whnf
      refine ⟨m3, ?_⟩
      conv => whnf
      refine ⟨m4, ?_⟩
      conv => whnf
      by_cases c4 : 5 * b * b < X * X
      · rw [show decide (X * X > 5 * b * b) = true from decide_eq_true c4]
        rw [if_pos c4] at l
        conv => whnf
        exact ⟨mm _ _ (by decide) (by decide), l⟩
      · rw [show decide (X * X > 5 * b * b) = false from decide_eq_false c4]
        rw [if_neg c4] at l
        conv => whnf
        exact ⟨mm _ _ (by decide) (by decide), l⟩
    · rw [show decide (X > 0) = false from decide_eq_false c3]
      rw [if_neg c3] at l
      conv => whnf
      refine ⟨m2, ?_⟩
      conv => whnf
      refine ⟨m3, ?_⟩
      conv => whnf
      refine ⟨m4, ?_⟩
      conv => whnf
      by_cases c4 : 5 * b * b < X * X
      · rw [show decide (X * X > 5 * b * b) = true from decide_eq_true c4]
        rw [if_pos c4] at l
        conv => whnf
        exact ⟨mm _ _ (by decide) (by decide), l⟩
      · rw [show decide (X * X > 5 * b * b) = false from decide_eq_false c4]
        rw [if_neg c4] at l
        conv => whnf
        exact ⟨mm _ _ (by decide) (by decide), l⟩
  have second : ¬ (0 ≤ X ∧ 0 ≤ b) → gSeq (gIfS (gAndT (gB (gBin leD (gVar 2) (gC (.int 0)))) (gB (gBin leD (gVar 1) (gC (.int 0))))) (gRet (gUn negD (gC (.int 1)))) gSkip) (gRet (gBin mulD (gIf (gB (gBin gtD (gVar 2) (gC (.int 0)))) (gC (.int 1)) (gUn negD (gC (.int 1)))) (gIf (gB (gBin gtD (gBin mulD (gVar 2) (gVar 2)) (gBin mulD (gBin mulD (gC (.int 5)) (gVar 1)) (gVar 1)))) (gC (.int 1)) (gUn negD (gC (.int 1)))))) (endsD Q) [.d (.int a), .d (.int b), .d (.int X)] := fun c1 => by
    have t := third c1
    conv => whnf
    by_cases c5 : X ≤ 0
    · rw [decide_eq_true c5]
      conv => whnf
      by_cases c6 : b ≤ 0
      · rw [decide_eq_true c6]
        rw [if_neg c1, if_pos ⟨c5, c6⟩] at q
        exact q
      · rw [decide_eq_false c6]
        exact t (fun z => c6 z.2)
    · rw [decide_eq_false c5]
      exact t (fun z => c5 z.1)
  by_cases c1 : 0 ≤ X
  · rw [show decide (X ≥ 0) = true from decide_eq_true c1]
    conv => whnf
    by_cases c2 : 0 ≤ b
    · rw [show decide (b ≥ 0) = true from decide_eq_true c2]
      rw [if_pos ⟨c1, c2⟩] at q
      conv => whnf
      by_cases c7 : 0 < X ∨ 0 < b
      · rw [if_pos c7] at q
        rw [show decide (X + b > 0) = true from decide_eq_true (by omega)]
        ((conv => whnf); repeat decreasing_trivial_pre_omega)
        exact q
      · rw [if_neg c7] at q
        rw [show decide (X + b > 0) = false from decide_eq_false (by omega)]
        ((conv => whnf); repeat decreasing_trivial_pre_omega)
        exact q
    · rw [show decide (b ≥ 0) = false from decide_eq_false c2]
      exact second fun z => c2 z.2
  · rw [show decide (X ≥ 0) = false from decide_eq_false c1]
    exact second fun z => c1 z.1
theorem len__law_root : ∀ W ds Q R, sp__law_root W ds Q R → ds.length = 1 := by
  rintro W ds Q R ⟨n, rfl, _⟩
  rfl
theorem root_ex {n : Int} (h : 0 ≤ n) : ∃ r, Root n r := by
  have key : ∀ k : Nat, ∃ r, Root (k : Int) r := fun k => by
    induction k with
    | zero => exact ⟨0, by decide, by decide, by decide⟩
    | succ k ih =>
      obtain ⟨r, h0, h1, h2⟩ := ih
      by_cases c : ((k + 1 : Nat) : Int) < (r + 1) * (r + 1)
      · exact ⟨r, h0, by omega, c⟩
      · refine ⟨r + 1, by omega, by omega, ?_⟩
        have : (r + 1 + 1) * (r + 1 + 1) = (r + 1) * (r + 1) + 2 * r + 3 := by grind
        omega
  obtain ⟨r, hr⟩ := key n.toNat
  rw [Int.toNat_of_nonneg h] at hr
  exact ⟨r, hr⟩
theorem law__law_root : ∀ W ds Q R, sp__law_root W ds Q R → g__law_root W R (endsD Q) (startD 4 ds) := by
  rintro W ds Q R ⟨n, rfl, n1, hl, q⟩
  obtain ⟨s, hs⟩ := root_ex (show 0 ≤ n by omega)
  have qs := q s hs
  have eb : Builtin.Int.intBits n = n.natAbs.log2 + 1 := by
    unfold Builtin.Int.intBits
    rw [if_neg (by simp; omega)]
  obtain ⟨l, el⟩ : ∃ l, l = Builtin.Int.intBits n := ⟨_, rfl⟩
  have l0 : l ≤ 780 := by omega
  obtain ⟨X, eX⟩ : ∃ X : Nat, X = 2 ^ (l / 2 + 1) := ⟨_, rfl⟩
  have nl : n.toNat < X * X := by
    have h1 : n.natAbs < 2 ^ (n.natAbs.log2 + 1) := (Nat.log2_lt (by omega)).mp (by omega)
    rw [← eb, ← el] at h1
    have h2 : 2 ^ l ≤ X * X := by
      rw [eX, ← Nat.pow_add]
      exact Nat.pow_le_pow_right (by decide) (by omega)
    omega
  have nl2 : n < (X : Int) * X := by
    have := Int.ofNat_lt.mpr nl
    rw [Int.natCast_mul] at this
    omega
  have hx0 : s ≤ X := by
    rcases Int.lt_or_le (X : Int) s with z | z
    · exfalso
      have h1 := sq_lt (x := (X : Int)) (by omega) z
      have := hs.2.1
      omega
    · exact z
  have s1 : 1 ≤ s := by
    rcases Int.lt_or_le 0 s with z | z
    · exact z
    · exfalso
      have : s = 0 := by have := hs.1; omega
      subst this
      have := hs.2.2
      omega
  have Xl : X < 2 ^ 400 := by
    rw [eX]
    exact Nat.pow_lt_pow_right (by decide) (by omega)
  have en : (1 : Int) * 2 ^ ((l : Int) / 2 + 1).toNat = X := by
    rw [show ((l : Int) / 2 + 1).toNat = l / 2 + 1 by omega, eX, Int.one_mul]
    simp
  unfold g__law_root
  conv => whnf
  rw [← el]
  refine ⟨by decide, by decide, ?_⟩
  conv => whnf
  refine ⟨by omega, by omega, by decide, ?_⟩
  rw [en]
  conv => whnf
  refine ⟨400, rfl, by decide, by decide, ?_⟩
  refine forL_in ?_
  refine forG_rng (S := fun j σ => ∃ x : Int, s ≤ x ∧ x ≤ X ∧ (x - s) * ((2 ^ j : Nat) : Int) ≤ X ∧ ∃ v2 v3, σ = [.d (.int n), .d (.int x), v2, v3]) 0 400 _ ⟨X, hx0, Int.le_refl _, by simp; omega, _, _, rfl⟩ ?_ ?_
  · rintro σ ⟨x, h1, h2, h3, v2, v3, rfl⟩
    have : x = s := by
      rcases Int.lt_or_le s x with z | z
      · exfalso
        have h4 := Int.mul_le_mul_of_nonneg_right (show 1 ≤ x - s by omega) (Int.natCast_nonneg (2 ^ 400))
        generalize (2 : Nat) ^ 400 = p at *
        omega
      · omega
    subst this
    exact qs
  · rintro j hj σ ⟨x, h1, h2, h3, v2, v3, rfl⟩ E' hrt hnx hct
    have xl : x.natAbs.log2 < 9000 := by
      have h6 : x.natAbs < 2 ^ 400 := by omega
      have := (Nat.log2_lt (show x.natAbs ≠ 0 by omega)).mpr h6
      omega
    obtain ⟨w1, w2, w3⟩ := newton hs h1 (by omega)
    conv => whnf
    refine ⟨by omega, xl, ?_⟩
    ((conv => whnf); repeat decreasing_trivial_pre_omega)
    by_cases hy : x ≤ (x + n / x) / 2
    · rw [decide_eq_true hy]
      conv => whnf
      show E'.rt _
      rw [hrt]
      have := w2 hy
      rw [this]
      exact qs
    · rw [decide_eq_false hy]
      have w4 := (w3 (by omega)).1
      have em : (if (x + n / x) / 2 > 1 then (x + n / x) / 2 else 1) = (x + n / x) / 2 := by
        split <;> omega
      conv => whnf
      rw [em]
      refine hnx _ ⟨(x + n / x) / 2, w1, by omega, ?_, _, _, rfl⟩
      have e2 : ((2 ^ (j + 1) : Nat) : Int) = 2 * ((2 ^ j : Nat) : Int) := by
        rw [Nat.pow_succ]
        omega
      rw [e2]
      have h5 := Int.mul_le_mul_of_nonneg_right (show 2 * ((x + n / x) / 2 - s) ≤ x - s by omega) (Int.natCast_nonneg (2 ^ j))
      have e3 : ((x + n / x) / 2 - s) * (2 * ((2 ^ j : Nat) : Int)) = 2 * ((x + n / x) / 2 - s) * ((2 ^ j : Nat) : Int) := by grind
      exact Int.le_trans (Int.le_of_eq e3) (Int.le_trans h5 h3)
theorem len__law_common : ∀ W ds Q R, sp__law_common W ds Q R → ds.length = 2 := by
  rintro W ds Q R ⟨a, b, rfl, _⟩
  rfl
theorem law__law_common : ∀ W ds Q R, sp__law_common W ds Q R → g__law_common W R (endsD Q) (startD 3 ds) := by
  rintro W ds Q R ⟨a, b, rfl, a0, b0, zb, q⟩
  have hb : b < 2 ^ 440 := by
    have : b.natAbs < 2 ^ 440 := zb
    have e : ((2 : Int) ^ 440) = ((2 ^ 440 : Nat) : Int) := by simp
    rw [e]
    omega
  have hbb : b * b < 2 ^ 890 := by
    have h1 : b * b ≤ 2 ^ 440 * 2 ^ 440 := Int.mul_le_mul (by omega) (by omega) b0 (by decide +kernel)
    have h2 : (2 : Int) ^ 440 * 2 ^ 440 < 2 ^ 890 := by decide +kernel
    omega
  have fin : ∀ {x : Int}, 0 ≤ x → Nat.gcd x.natAbs (0 : Int).natAbs = Nat.gcd a.natAbs b.natAbs → Q (.int x) := fun {x} hx e => by
    have e2 : x = ((Nat.gcd a.natAbs b.natAbs : Nat) : Int) := by
      rw [← e]
      simp
      omega
    rw [e2]
    exact q
  unfold g__law_common
  conv => whnf
  refine ⟨900, rfl, by decide, by decide, ?_⟩
  refine forL_in ?_
  refine forG_rng (S := fun j σ => ∃ x y : Int, 0 ≤ x ∧ 0 ≤ y ∧ Nat.gcd x.natAbs y.natAbs = Nat.gcd a.natAbs b.natAbs ∧ (j = 0 → x = a ∧ y = b) ∧ (1 ≤ j → y < x ∧ x * y * ((2 ^ (j - 1) : Nat) : Int) ≤ b * b) ∧ ∃ v2, σ = [.d (.int x), .d (.int y), v2]) 0 900 _ ⟨a, b, a0, b0, rfl, fun _ => ⟨rfl, rfl⟩, fun h => absurd h (by decide), _, rfl⟩ ?_ ?_
  · rintro σ ⟨x, y, x0, y0, e, _, h1, v2, rfl⟩
    obtain ⟨l1, l2⟩ := h1 (by decide)
    have y00 : y = 0 := by
      rcases Int.lt_or_le 0 y with z | z
      · exfalso
        have h3 := Int.mul_le_mul (show 1 ≤ x by omega) (show 1 ≤ y by omega) (by decide) x0
        have h4 := Int.mul_le_mul_of_nonneg_right (show 1 ≤ x * y by omega) (Int.natCast_nonneg (2 ^ (900 - 1)))
        have h5 : (2 : Int) ^ 890 < ((2 ^ (900 - 1) : Nat) : Int) := by decide +kernel
        omega
      · omega
    subst y00
    exact fin x0 e
  · rintro j hj σ ⟨x, y, x0, y0, e, h0, h1, v2, rfl⟩ E' hrt hnx hct
    conv => whnf
    refine ⟨rfl, rfl, ?_⟩
    rw [eqb_int]
    by_cases hy : y = 0
    · subst hy
      rw [decide_eq_true rfl]
      conv => whnf
      show E'.rt _
      rw [hrt]
      exact fin x0 e
    · rw [decide_eq_false hy]
      have hy2 : 0 < y := by omega
      have m0 := Int.emod_nonneg x hy
      have m1 := Int.emod_lt_of_pos x hy2
      conv => whnf
      refine ⟨hy2, ?_⟩
      conv => whnf
      refine ⟨rfl, hnx _ ⟨y, x % y, y0, m0, (gcd_step x0 hy2).trans e, fun z => absurd z (by omega), fun _ => ⟨m1, ?_⟩, _, rfl⟩⟩
      rcases Nat.eq_zero_or_pos j with rfl | hj0
      · obtain ⟨rfl, rfl⟩ := h0 rfl
        have : y * (x % y) ≤ y * y := Int.mul_le_mul_of_nonneg_left (by omega) y0
        simp
        exact this
      · obtain ⟨l1, l2⟩ := h1 hj0
        have e2 : ((2 ^ (j + 1 - 1) : Nat) : Int) = 2 * ((2 ^ (j - 1) : Nat) : Int) := by
          rw [show j + 1 - 1 = (j - 1) + 1 by omega, Nat.pow_succ]
          omega
        have q1 := Int.mul_ediv_add_emod x y
        have q2 : 1 ≤ x / y := by
          have := (Int.le_ediv_iff_mul_le hy2).mpr (show 1 * y ≤ x by omega)
          exact this
        have q3 : y * 1 ≤ y * (x / y) := Int.mul_le_mul_of_nonneg_left q2 y0
        have q4 : 2 * (x % y) ≤ x := by omega
        have q5 : y * (2 * (x % y)) ≤ y * x := Int.mul_le_mul_of_nonneg_left q4 y0
        have q6 := Int.mul_le_mul_of_nonneg_right q5 (Int.natCast_nonneg (2 ^ (j - 1)))
        rw [e2]
        generalize ((2 ^ (j - 1) : Nat) : Int) = p at *
        have e3 : y * (x % y) * (2 * p) = y * (2 * (x % y)) * p := by grind
        have e4 : y * x * p = x * y * p := by grind
        omega
theorem len__law_keys : ∀ W ds Q R, sp__law_keys W ds Q R → ds.length = 3 := by
  rintro W ds Q R ⟨r, p, q, u, v, n, rfl, _⟩
  rfl
theorem law__law_keys : ∀ W ds Q R, sp__law_keys W ds Q R → g__law_keys W R (endsD Q) (startD 7 ds) := by
  rintro W ds Q R ⟨r, p, q, u, v, n, rfl, r0, r4, zp, zq, zu, zv, qk⟩
  obtain ⟨a, b, h, hp, hq, hu, hv, sa, sb⟩ := keys_ex r0 r4 zp zq zu zv
  have qq := qk a b h hp hq hu hv sa sb
  obtain ⟨x3, y3⟩ := h.k3
  obtain ⟨x4, y4⟩ := h.k4
  obtain ⟨⟨x0, y0⟩, ⟨x1, y1⟩, ⟨x2, y2⟩⟩ := h
  unfold g__law_keys
  rcases five_of r0 r4 with rfl | rfl | rfl | rfl | rfl
  · subst hp hq hu hv
    ((conv => whnf); repeat decreasing_trivial_pre_omega)
    refine forL_in ?_
    refine forG_rng (S := fun j σ => ∃ v4 v5 v6, σ = [.d (.int 0), .d (pr (a 0) (b 0)), .d (pr (a 1) (b 1)), .ol (match j with | 0 => [pr (a 0) (b 0), pr (a 1) (b 1), pr (a 0) (b 0), pr (a 0) (b 0), pr (a 0) (b 0)] | 1 => [pr (a 0) (b 0), pr (a 1) (b 1), pr (a 2) (b 2), pr (a 0) (b 0), pr (a 0) (b 0)] | 2 => [pr (a 0) (b 0), pr (a 1) (b 1), pr (a 2) (b 2), pr (a 3) (b 3), pr (a 0) (b 0)] | _ => [pr (a 0) (b 0), pr (a 1) (b 1), pr (a 2) (b 2), pr (a 3) (b 3), pr (a 4) (b 4)]), v4, v5, v6]) 0 3 _ ⟨_, _, _, rfl⟩ ?_ ?_
    · rintro σ ⟨v4, v5, v6, rfl⟩
      exact qq
    · rintro j hj σ ⟨v4, v5, v6, rfl⟩ E' hrt hnx hct
      match j, hj with
      | 0, _ =>
        ((conv => whnf); repeat decreasing_trivial_pre_omega)
        refine' hnx _ ⟨_, _, _, ?_⟩
        rotate_left 3
        rw [← x0, ← y0]
        rfl
      | 1, _ =>
        ((conv => whnf); repeat decreasing_trivial_pre_omega)
        refine' hnx _ ⟨_, _, _, ?_⟩
        rotate_left 3
        rw [← x1, ← y1]
        rfl
      | 2, _ =>
        ((conv => whnf); repeat decreasing_trivial_pre_omega)
        refine' hnx _ ⟨_, _, _, ?_⟩
        rotate_left 3
        rw [← x2, ← y2]
        rfl
  · subst hp hq hu hv
    ((conv => whnf); repeat decreasing_trivial_pre_omega)
    refine forL_in ?_
    refine forG_rng (S := fun j σ => ∃ v4 v5 v6, σ = [.d (.int 1), .d (pr (a 1) (b 1)), .d (pr (a 2) (b 2)), .ol (match j with | 0 => [pr (a 1) (b 1), pr (a 1) (b 1), pr (a 2) (b 2), pr (a 1) (b 1), pr (a 1) (b 1)] | 1 => [pr (a 1) (b 1), pr (a 1) (b 1), pr (a 2) (b 2), pr (a 3) (b 3), pr (a 1) (b 1)] | 2 => [pr (a 1) (b 1), pr (a 1) (b 1), pr (a 2) (b 2), pr (a 3) (b 3), pr (a 4) (b 4)] | _ => [pr (a 0) (b 0), pr (a 1) (b 1), pr (a 2) (b 2), pr (a 3) (b 3), pr (a 4) (b 4)]), v4, v5, v6]) 0 3 _ ⟨_, _, _, rfl⟩ ?_ ?_
    · rintro σ ⟨v4, v5, v6, rfl⟩
      exact qq
    · rintro j hj σ ⟨v4, v5, v6, rfl⟩ E' hrt hnx hct
      match j, hj with
      | 0, _ =>
        ((conv => whnf); repeat decreasing_trivial_pre_omega)
        refine' hnx _ ⟨_, _, _, ?_⟩
        rotate_left 3
        rw [← x1, ← y1]
        rfl
      | 1, _ =>
        ((conv => whnf); repeat decreasing_trivial_pre_omega)
        refine' hnx _ ⟨_, _, _, ?_⟩
        rotate_left 3
        rw [← x2, ← y2]
        rfl
      | 2, _ =>
        ((conv => whnf); repeat decreasing_trivial_pre_omega)
        refine' hnx _ ⟨_, _, _, ?_⟩
        rotate_left 3
        rw [← x3, ← y3]
        rfl
  · subst hp hq hu hv
    ((conv => whnf); repeat decreasing_trivial_pre_omega)
    refine forL_in ?_
    refine forG_rng (S := fun j σ => ∃ v4 v5 v6, σ = [.d (.int 2), .d (pr (a 2) (b 2)), .d (pr (a 3) (b 3)), .ol (match j with | 0 => [pr (a 2) (b 2), pr (a 2) (b 2), pr (a 2) (b 2), pr (a 3) (b 3), pr (a 2) (b 2)] | 1 => [pr (a 2) (b 2), pr (a 2) (b 2), pr (a 2) (b 2), pr (a 3) (b 3), pr (a 4) (b 4)] | 2 => [pr (a 0) (b 0), pr (a 2) (b 2), pr (a 2) (b 2), pr (a 3) (b 3), pr (a 4) (b 4)] | _ => [pr (a 0) (b 0), pr (a 1) (b 1), pr (a 2) (b 2), pr (a 3) (b 3), pr (a 4) (b 4)]), v4, v5, v6]) 0 3 _ ⟨_, _, _, rfl⟩ ?_ ?_
    · rintro σ ⟨v4, v5, v6, rfl⟩
      exact qq
    · rintro j hj σ ⟨v4, v5, v6, rfl⟩ E' hrt hnx hct
      match j, hj with
      | 0, _ =>
        ((conv => whnf); repeat decreasing_trivial_pre_omega)
        refine' hnx _ ⟨_, _, _, ?_⟩
        rotate_left 3
        rw [← x2, ← y2]
        rfl
      | 1, _ =>
        ((conv => whnf); repeat decreasing_trivial_pre_omega)
        refine' hnx _ ⟨_, _, _, ?_⟩
        rotate_left 3
        rw [← x3, ← y3]
        rfl
      | 2, _ =>
        ((conv => whnf); repeat decreasing_trivial_pre_omega)
        refine' hnx _ ⟨_, _, _, ?_⟩
        rotate_left 3
        rw [← x4, ← y4]
        rfl
  · subst hp hq hu hv
    ((conv => whnf); repeat decreasing_trivial_pre_omega)
    refine forL_in ?_
    refine forG_rng (S := fun j σ => ∃ v4 v5 v6, σ = [.d (.int 3), .d (pr (a 3) (b 3)), .d (pr (a 4) (b 4)), .ol (match j with | 0 => [pr (a 3) (b 3), pr (a 3) (b 3), pr (a 3) (b 3), pr (a 3) (b 3), pr (a 4) (b 4)] | 1 => [pr (a 0) (b 0), pr (a 3) (b 3), pr (a 3) (b 3), pr (a 3) (b 3), pr (a 4) (b 4)] | 2 => [pr (a 0) (b 0), pr (a 1) (b 1), pr (a 3) (b 3), pr (a 3) (b 3), pr (a 4) (b 4)] | _ => [pr (a 0) (b 0), pr (a 1) (b 1), pr (a 2) (b 2), pr (a 3) (b 3), pr (a 4) (b 4)]), v4, v5, v6]) 0 3 _ ⟨_, _, _, rfl⟩ ?_ ?_
    · rintro σ ⟨v4, v5, v6, rfl⟩
      exact qq
    · rintro j hj σ ⟨v4, v5, v6, rfl⟩ E' hrt hnx hct
      match j, hj with
      | 0, _ =>
        ((conv => whnf); repeat decreasing_trivial_pre_omega)
        refine' hnx _ ⟨_, _, _, ?_⟩
        rotate_left 3
        rw [← x3, ← y3]
        rfl
      | 1, _ =>
        ((conv => whnf); repeat decreasing_trivial_pre_omega)
        refine' hnx _ ⟨_, _, _, ?_⟩
        rotate_left 3
        rw [← x4, ← y4]
        rfl
      | 2, _ =>
        ((conv => whnf); repeat decreasing_trivial_pre_omega)
        refine' hnx _ ⟨_, _, _, ?_⟩
        rotate_left 3
        rw [← x0, ← y0]
        rfl
  · subst hp hq hu hv
    ((conv => whnf); repeat decreasing_trivial_pre_omega)
    refine forL_in ?_
    refine forG_rng (S := fun j σ => ∃ v4 v5 v6, σ = [.d (.int 4), .d (pr (a 4) (b 4)), .d (pr (a 0) (b 0)), .ol (match j with | 0 => [pr (a 0) (b 0), pr (a 4) (b 4), pr (a 4) (b 4), pr (a 4) (b 4), pr (a 4) (b 4)] | 1 => [pr (a 0) (b 0), pr (a 1) (b 1), pr (a 4) (b 4), pr (a 4) (b 4), pr (a 4) (b 4)] | 2 => [pr (a 0) (b 0), pr (a 1) (b 1), pr (a 2) (b 2), pr (a 4) (b 4), pr (a 4) (b 4)] | _ => [pr (a 0) (b 0), pr (a 1) (b 1), pr (a 2) (b 2), pr (a 3) (b 3), pr (a 4) (b 4)]), v4, v5, v6]) 0 3 _ ⟨_, _, _, rfl⟩ ?_ ?_
    · rintro σ ⟨v4, v5, v6, rfl⟩
      exact qq
    · rintro j hj σ ⟨v4, v5, v6, rfl⟩ E' hrt hnx hct
      match j, hj with
      | 0, _ =>
        ((conv => whnf); repeat decreasing_trivial_pre_omega)
        refine' hnx _ ⟨_, _, _, ?_⟩
        rotate_left 3
        rw [← x4, ← y4]
        rfl
      | 1, _ =>
        ((conv => whnf); repeat decreasing_trivial_pre_omega)
        refine' hnx _ ⟨_, _, _, ?_⟩
        rotate_left 3
        rw [← x0, ← y0]
        rfl
      | 2, _ =>
        ((conv => whnf); repeat decreasing_trivial_pre_omega)
        refine' hnx _ ⟨_, _, _, ?_⟩
        rotate_left 3
        rw [← x1, ← y1]
        rfl
theorem len__law_whole : ∀ W ds Q R, sp__law_whole W ds Q R → ds.length = 2 := by
  rintro W ds Q R ⟨a, b, d, rfl, _⟩
  rfl
theorem law__law_whole : ∀ W ds Q R, sp__law_whole W ds Q R → g__law_whole W R (endsD Q) (startD 3 ds) := by
  rintro W ds Q R ⟨a, b, d, rfl, h, q⟩
  have h0 : 0 < d := h
  unfold g__law_whole
  conv => whnf
  refine ⟨5, rfl, by decide, by decide, ?_⟩
  refine lc_fn (whB a b d) dirs5 (by show 2 < 3; decide) (fun r hr Qd qd => ?_) (by decide) q
  obtain ⟨r0, r4⟩ := dirs_in hr
  conv => whnf
  refine ix_keysP r0 r4 ?_
  ((conv => whnf); repeat decreasing_trivial_pre_omega)
  refine ⟨h0, ?_⟩
  ((conv => whnf); repeat decreasing_trivial_pre_omega)
  rw [eqb_int]
  unfold whB at qd
  by_cases h1 : a r % d = 0
  · rw [decide_eq_true h1] at qd ⊢
    conv => whnf
    refine ix_keysP r0 r4 ?_
    ((conv => whnf); repeat decreasing_trivial_pre_omega)
    refine ⟨h0, ?_⟩
    ((conv => whnf); repeat decreasing_trivial_pre_omega)
    rw [eqb_int]
    exact qd
  · rw [decide_eq_false h1] at qd ⊢
    exact qd
theorem len__law_phase : ∀ W ds Q R, sp__law_phase W ds Q R → ds.length = 4 := by
  rintro W ds Q R ⟨a, b, d, s, j, n, x, rfl, _⟩
  rfl
theorem law__law_phase : ∀ W ds Q R, sp__law_phase W ds Q R → g__law_phase W R (endsD Q) (startD 7 ds) := by
  rintro W ds Q R ⟨a, b, d, s, j, n, x, rfl, h, j0, j4, hn, hx, q⟩
  unfold g__law_phase
  conv => whnf
  refine ⟨_, rfl, rfl, ?_⟩
  conv => whnf
  refine ⟨h.sd.ok hn (by decide), ?_⟩
  conv => whnf
  refine ix_keysP j0 j4 ?_
  ((conv => whnf); repeat decreasing_trivial_pre_omega)
  refine ⟨h.sd.neg.ok hx (by decide), ?_⟩
  conv => whnf
  refine ix_keysP j0 j4 ?_
  ((conv => whnf); repeat decreasing_trivial_pre_omega)
  exact q
theorem len__law_same : ∀ W ds Q R, sp__law_same W ds Q R → ds.length = 2 := by
  rintro W ds Q R ⟨x, rfl, _⟩
  rfl
theorem law__law_same : ∀ W ds Q R, sp__law_same W ds Q R → g__law_same W R (endsD Q) (startD 2 ds) := by
  rintro W ds Q R ⟨x, rfl, h, q⟩
  simp [g__law_same, startD, h.1, h.2.1, h.2.2.1, h.len, q]
theorem len_is_number : ∀ W ds Q R, sp_is_number W ds Q R → ds.length = 1 := by
  rintro W ds Q R ⟨x, rfl, _⟩
  rfl
theorem law_is_number : ∀ W ds Q R, sp_is_number W ds Q R → g_is_number W R (endsD Q) (startD 1 ds) := by
  rintro W ds Q R ⟨x, rfl, h, q⟩
  simp [g_is_number, startD, isiX, h.1, show knownT "tuple" = true by decide]
  cases x with
  | tup xs =>
    have hx := h.2 xs rfl
    simp [isiB, tyD, isTb, lenD]
    by_cases hl : xs.length = 3
    · obtain ⟨a, b, c, rfl⟩ := len3 hl
      simp at hx
      simp
      refine ⟨a, rfl, hx.1, ?_⟩
      cases h1 : isI a
      · simpa [isNum, h1] using q
      · simp
        refine ⟨b, rfl, hx.2.1, ?_⟩
        cases h2 : isI b
        · simpa [isNum, h1, h2] using q
        · simp
          refine ⟨c, rfl, hx.2.2, ?_⟩
          cases h3 : isI c
          · simpa [isNum, h1, h2, h3] using q
          · obtain ⟨i, rfl⟩ := isI_n h3
            have en : isNum (.tup [a, b, .int i]) = decide (1 ≤ i) := by
              show (isI a && isI b && true && decide (1 ≤ i)) = _
              rw [h1, h2]
              rfl
            rw [en] at q
            simpa [geD, isI] using q
    · have hl2 : ¬ ((xs.length : Int) = 3) := by omega
      rw [num_len hl] at q
      simpa [hl, hl2] using q
  | _ => simpa [isiB, tyD, isTb, isNum] using q
theorem len_compared : ∀ W ds Q R, sp_compared W ds Q R → ds.length = 2 := by
  rintro W ds Q R ⟨N, a, b, m, c, d, n, rfl, _⟩
  rfl
theorem law_compared : ∀ W ds Q R, sp_compared W ds Q R → g_compared W R (endsD Q) (startD 2 ds) := by
  rintro W ds Q R ⟨N, a, b, m, c, d, n, rfl, h, k, hN, q⟩
  have e : N + N < 1000000 := by omega
  have m1 : MulOk a n := h.1.ok k.2.2.1 e
  have m2 : MulOk c m := k.1.ok h.2.2.1 e
  have m3 : MulOk b n := h.2.1.ok k.2.2.1 e
  have m4 : MulOk d m := k.2.1.ok h.2.2.1 e
  simp [g_compared, startD, m1, m2, m3, m4]
  exact ⟨_, _, rfl, ((h.1.mul k.2.2.1).sub (k.1.mul h.2.2.1)).mono (by omega), ((h.2.1.mul k.2.2.1).sub (k.2.1.mul h.2.2.1)).mono (by omega), q⟩
theorem len_added : ∀ W ds Q R, sp_added W ds Q R → ds.length = 2 := by
  rintro W ds Q R ⟨n, m, a, b, d, c, e, f, rfl, _⟩
  rfl
theorem law_added : ∀ W ds Q R, sp_added W ds Q R → g_added W R (endsD Q) (startD 3 ds) := by
  rintro W ds Q R ⟨n, m, a, b, d, c, e, f, rfl, h, k, l, sd, sf, q⟩
  obtain ⟨o1, o2, o3, o4, o5, _⟩ := h.ok k (by omega)
  have z4 := (add_sz h k).2.2.2
  simp [g_added, startD, o1, o2, o3, o4, o5]
  exact ⟨_, _, _, rfl, (sd.mul sf).mono (by decide), by omega, q⟩
theorem len_multiplied : ∀ W ds Q R, sp_multiplied W ds Q R → ds.length = 2 := by
  rintro W ds Q R ⟨n, m, a, b, d, c, e, f, rfl, _⟩
  rfl
theorem law_multiplied : ∀ W ds Q R, sp_multiplied W ds Q R → g_multiplied W R (endsD Q) (startD 6 ds) := by
  rintro W ds Q R ⟨n, m, a, b, d, c, e, f, rfl, h, k, l, sd, sf, q⟩
  obtain ⟨_, _, _, _, o5, o6, o7, o8, o9⟩ := h.ok k (by omega)
  have z4 := (mul_sz h k).2.2.2
  simp [g_multiplied, startD, o5, o6, o7, o8, o9]
  exact ⟨_, _, _, rfl, (sd.mul sf).mono (by decide), by omega, q⟩
theorem len_is_direction : ∀ W ds Q R, sp_is_direction W ds Q R → ds.length = 1 := by
  rintro W ds Q R ⟨x, rfl, _⟩
  rfl
theorem law_is_direction : ∀ W ds Q R, sp_is_direction W ds Q R → g_is_direction W R (endsD Q) (startD 1 ds) := by
  rintro W ds Q R ⟨x, rfl, h, q⟩
  simp [g_is_direction, startD]
  refine ⟨x, rfl, h, ?_⟩
  cases x <;> simp_all [isI, truthD, isDir, leD]
  split <;> simp_all
theorem len_phase_sign : ∀ W ds Q R, sp_phase_sign W ds Q R → ds.length = 4 := by
  rintro W ds Q R ⟨j, x, y, p, q, a, b, d, s, rfl, _⟩
  rfl
theorem phase_psg {a b : Int → Int} {d u v w j x y p q : Int} (hd : 1 ≤ d) (hw : 1 ≤ w) (e1 : u * d = a j * w) (e2 : v * d = b j * w) : psg ((x + y) * w - u - p * w) (-x * w - v - q * w) = psg (bpA a d j x y p) (bpB b d j x q) := by
  rw [← psg_scale hd, ← psg_scale hw (bpA a d j x y p)]
  unfold bpA bpB
  congr 1
  · have := e1
    grind
  · have := e2
    grind
theorem law_phase_sign : ∀ W ds Q R, sp_phase_sign W ds Q R → g_phase_sign W R (endsD Q) (startD 8 ds) := by
  rintro W ds Q R ⟨j, x, y, p, q, a, b, d, s, rfl, h, hs, j0, j4, hx, hy, hp, hq, qq⟩
  unfold g_phase_sign
  conv => whnf
  refine ⟨j, x, y, a, b, d, s, rfl, h, j0, j4, hx, hy, fun u v w hn e1 e2 => ?_⟩
  obtain ⟨hu, hv, hw, w1⟩ := hn
  have ep := phase_psg (x := x) (y := y) (p := p) (q := q) h.d1 w1 e1 e2
  have a1 : Sz 9000 ((x + y) * w - u - p * w) := (((((hx.add hy).mul hw).mono (by decide : 1001 + 4000 ≤ 6000)).sub (hu.mono (by decide))).sub ((hp.mul hw).mono (by decide))).mono (by decide)
  have a2 : Sz 9000 (-x * w - v - q * w) := ((((hx.neg.mul hw).mono (by decide : 1000 + 4000 ≤ 6000)).sub (hv.mono (by decide))).sub ((hq.mul hw).mono (by decide))).mono (by decide)
  conv => whnf
  refine ⟨_, rfl, rfl, ?_⟩
  conv => whnf
  refine ⟨hp.ok hw (by decide), ?_⟩
  conv => whnf
  refine ⟨hq.ok hw (by decide), ?_⟩
  conv => whnf
  refine ⟨_, _, rfl, a1.mono (by decide), a2.mono (by decide), ?_⟩
  rw [ep]
  unfold phS at qq
  conv => whnf
  refine ⟨rfl, rfl, ?_⟩
  conv => whnf
  rw [eqb_int]
  by_cases hz : psg (bpA a d j x y p) (bpB b d j x q) = 0
  · rw [if_neg (fun z => z hz)] at qq
    rw [decide_eq_true hz]
    conv => whnf
    refine fld_s ?_
    ((conv => whnf); repeat decreasing_trivial_pre_omega)
    refine at_five hs j0 j4 ?_
    conv => whnf
    exact qq
  · rw [if_pos hz] at qq
    rw [decide_eq_false hz]
    conv => whnf
    exact qq
theorem len_whole_directions : ∀ W ds Q R, sp_whole_directions W ds Q R → ds.length = 1 := by
  rintro W ds Q R ⟨a, b, d, rfl, _⟩
  rfl
theorem law_whole_directions : ∀ W ds Q R, sp_whole_directions W ds Q R → g_whole_directions W R (endsD Q) (startD 2 ds) := by
  rintro W ds Q R ⟨a, b, d, rfl, h, q⟩
  unfold g_whole_directions
  conv => whnf
  refine ⟨5, rfl, by decide, by decide, ?_⟩
  refine lc_fn (whB a b d) dirs5 (by show 1 < 2; decide) (fun r hr Qd qd => ?_) (by decide) q
  obtain ⟨r0, r4⟩ := dirs_in hr
  refine ix_key r0 r4 ?_
  obtain ⟨x, y, z, e, n, e1, e2⟩ := h.fr r0 r4
  rw [e]
  ((conv => whnf); repeat decreasing_trivial_pre_omega)
  refine ⟨n.2.2.2, ?_⟩
  rw [wh_red n.2.2.2 h.d1 e1 e2]
  exact qd
theorem len__law_pick : ∀ W ds Q R, sp__law_pick W ds Q R → ds.length = 2 := by
  rintro W ds Q R ⟨d, l, xs, _, rfl | rfl, _⟩ <;> rfl
theorem law__law_pick : ∀ W ds Q R, sp__law_pick W ds Q R → g__law_pick W R (endsD Q) (startD 2 ds) := by
  rintro W ds Q R ⟨d, l, xs, rfl, rfl | rfl, h1, h2, q⟩
  all_goals
    simp [g__law_pick, startD, lenD]
    refine ⟨d, l, _, rfl, rfl, by omega, by exact_mod_cast h2, fun r hr0 hr1 => ?_⟩
    have hr : r.toNat < xs.length := by omega
    refine ⟨xs[r.toNat], ?_, q _ (List.getElem_mem hr)⟩
    simp [atI, ixN, hr0, hr1, hr]
theorem len__law_number : ∀ W ds Q R, sp__law_number W ds Q R → ds.length = 1 := by
  rintro W ds Q R ⟨d, l, _, rfl, _⟩
  rfl
theorem law__law_number : ∀ W ds Q R, sp__law_number W ds Q R → g__law_number W R (endsD Q) (startD 5 ds) := by
  rintro W ds Q R ⟨d, l, rfl, rfl, q⟩
  unfold g__law_number
  conv => whnf
  refine ⟨_, _, _, rfl, rfl, by first | decide | omega, by first | decide | omega, fun w w0 w1 => ?_⟩
  conv => whnf
  by_cases hw : w < 6
  · rw [decide_eq_true hw]
    conv => whnf
    refine ⟨_, _, _, rfl, rfl, by first | decide | omega, by first | decide | omega, fun r r0 r1 => ?_⟩
    conv => whnf
    exact q _ ((Sz.small (by omega) (by omega)).mono (by decide))
  · rw [decide_eq_false hw]
    conv => whnf
    refine ⟨_, _, _, rfl, rfl, by first | decide | omega, by first | decide | omega, fun g g0 g1 => ?_⟩
    refine ⟨(Sz.small (i := 2) (by decide) (by decide)).ok (Sz.small (i := g) (by omega) (by omega)) (by decide), ?_⟩
    conv => whnf
    decreasing_trivial_pre_omega
    have key : ∀ (n : Nat) (s4 : SV), n ≤ 5 → forG (ggName 4) (gSet 2 (gBin addD (gBin mulD (gVar 2) (gC (.int 1000000))) (gCall spDraw (some (d, l)) R (ND.gCons (gVar 0) (ND.gCons (gC (.int 1000000)) ND.gNil))))) (intsFrom 0 n) { nx := gRet (gBin mulD (gVar 3) (gVar 2)) (endsD Q), rt := (endsD Q).rt, bk := (endsD Q).bk, ct := (endsD Q).ct } [.d (dkD d), .d (.int w), .d (.int 0), .d (.int (1 - 2 * g)), s4] := fun n s4 hn => by
      refine forG_rng (S := fun j σ => ∃ v s4, 0 ≤ v ∧ v < 10 ^ (6 * j) ∧ σ = [.d (dkD d), .d (.int w), .d (.int v), .d (.int (1 - 2 * g)), s4]) 0 n _ ⟨0, s4, by decide, by simp, rfl⟩ ?_ ?_
      · rintro σ ⟨v, s4, v0, v1, rfl⟩
        have hv : Sz 100 v := (ten_sz v0 v1).mono (by omega)
        have hg : Sz 20 (1 - 2 * g) := Sz.small (by omega) (by omega)
        conv => whnf
        exact ⟨hg.ok hv (by decide), q _ (hg.mul hv)⟩
      · rintro j hj σ ⟨v, s4, v0, v1, rfl⟩ E' hrt hnx hct
        conv => whnf
        refine ⟨(ten_sz v0 v1).ok (m := 20) (show (1000000 : Int).natAbs < 2 ^ 20 by decide) (by omega), ?_⟩
        conv => whnf
        refine ⟨_, _, _, rfl, rfl, by first | decide | omega, by first | decide | omega, fun r r0 r1 => ?_⟩
        refine hnx _ ⟨v * 1000000 + r, _, by omega, ?_, rfl⟩
        have e : (10 : Int) ^ (6 * (j + 1)) = 10 ^ (6 * j) * 1000000 := by
          rw [Nat.mul_add, Int.pow_add]
          rfl
        rw [e]
        omega
    decreasing_trivial_pre_omega; decreasing_trivial_pre_omega
    cases eqb (.int w) (.int 6)
    · ((conv => whnf); repeat decreasing_trivial_pre_omega)
      refine forL_in ?_
      exact key 2 _ (by decide)
    · ((conv => whnf); repeat decreasing_trivial_pre_omega)
      refine forL_in ?_
      exact key 5 _ (by decide)
theorem len__law_tie : ∀ W ds Q R, sp__law_tie W ds Q R → ds.length = 3 := by
  rintro W ds Q R ⟨a, b, s, rfl, _⟩
  rfl
theorem law__law_tie : ∀ W ds Q R, sp__law_tie W ds Q R → g__law_tie W R (endsD Q) (startD 4 ds) := by
  rintro W ds Q R ⟨a, b, s, rfl, ha, hb, q⟩
  unfold tieS at q
  unfold g__law_tie
  conv => whnf
  refine ⟨a, b, rfl, ha, hb, ?_⟩
  conv => whnf
  refine ⟨rfl, rfl, ?_⟩
  rw [eqb_int]
  by_cases h : psg a b = 0
  · rw [decide_eq_true h]
    rw [if_neg (fun z => z h)] at q
    exact q
  · rw [decide_eq_false h]
    rw [if_pos h] at q
    exact q
theorem len__law_under : ∀ W ds Q R, sp__law_under W ds Q R → ds.length = 3 := by
  rintro W ds Q R ⟨a, b, d, rfl, _⟩
  rfl
theorem law__law_under : ∀ W ds Q R, sp__law_under W ds Q R → g__law_under W R (endsD Q) (startD 4 ds) := by
  rintro W ds Q R ⟨a, b, d, rfl, za, zb, d1, zd, q⟩
  have z2d : Sz 8902 (2 * d) := (show Sz 2 (2 : Int) from by decide).mul zd
  have dl : (2 * d).natAbs.log2 < 9000 := by
    have := z2d.log
    omega
  have ma : MulOk 2 a := (show Sz 2 (2 : Int) from by decide).ok za (by decide)
  have d0 : 0 < 2 * d := by omega
  have m2 : MulOk 2 d := (show Sz 2 (2 : Int) from by decide).ok zd (by decide)
  have z5 : Sz 384 (5 * b) := (show Sz 4 (5 : Int) from by decide).mul zb
  have z55 : Sz 764 (5 * b * b) := z5.mul zb
  unfold flr at q
  unfold g__law_under
  conv => whnf
  refine ⟨rfl, rfl, ?_⟩
  rw [eqb_int]
  by_cases hb : b = 0
  · subst hb
    rw [decide_eq_true rfl]
    have e : (Float64.isqrt (5 * 0 * 0 : Int).toNat : Nat) = 0 := by decide +kernel
    rw [if_pos (by decide), e] at q
    ((conv => whnf); repeat decreasing_trivial_pre_omega)
    refine ⟨ma, ?_⟩
    ((conv => whnf); repeat decreasing_trivial_pre_omega)
    refine ⟨m2, ?_⟩
    conv => whnf
    exact ⟨d0, dl, q⟩
  · rw [decide_eq_false hb]
    have b5 : 0 < b * b := by
      rcases Int.lt_or_gt_of_ne hb with z | z
      · exact Int.mul_pos_of_neg_of_neg z z
      · exact Int.mul_pos z z
    have e5 : 5 * b * b = 5 * (b * b) := Int.mul_assoc ..
    obtain ⟨r, hr, r0, r1, r2⟩ := root5 b
    rw [hr] at q
    have rt : Root (5 * b * b) r := ⟨r0, r1, r2⟩
    ((conv => whnf); repeat decreasing_trivial_pre_omega)
    refine ⟨(show Sz 4 (5 : Int) from by decide).ok zb (by decide), ?_⟩
    ((conv => whnf); repeat decreasing_trivial_pre_omega)
    refine ⟨z5.ok zb (by decide), ?_⟩
    ((conv => whnf); repeat decreasing_trivial_pre_omega)
    refine ⟨by omega, by have := z55.log; omega, fun s hs => ?_⟩
    have : s = r := hs.uniq rt
    subst this
    ((conv => whnf); repeat decreasing_trivial_pre_omega)
    refine ⟨ma, ?_⟩
    ((conv => whnf); repeat decreasing_trivial_pre_omega)
    by_cases b0 : 0 ≤ b
    · rw [show decide (b ≥ 0) = true from decide_eq_true b0]
      rw [if_pos b0] at q
      ((conv => whnf); repeat decreasing_trivial_pre_omega)
      refine ⟨m2, ?_⟩
      conv => whnf
      exact ⟨d0, dl, q⟩
    · rw [show decide (b ≥ 0) = false from decide_eq_false b0]
      rw [if_neg b0] at q
      rw [show 2 * a + b - s - 1 = 2 * a + b + (-s - 1) by omega] at q
      ((conv => whnf); repeat decreasing_trivial_pre_omega)
      refine ⟨m2, ?_⟩
      conv => whnf
      exact ⟨d0, dl, q⟩
theorem len__law_golden : ∀ W ds Q R, sp__law_golden W ds Q R → ds.length = 3 := by
  rintro W ds Q R ⟨a, b, d, rfl, _⟩
  rfl
theorem law__law_golden : ∀ W ds Q R, sp__law_golden W ds Q R → g__law_golden W R (endsD Q) (startD 4 ds) := by
  rintro W ds Q R ⟨a, b, d, rfl, za, zb, hd, h0, q⟩
  have hz := cdv_sz (a := a) (b := b) (hd.mono (by decide : 440 ≤ 8900)) (by omega)
  have hn := cdv_ne (a := a) (b := b) (d := d) (by omega)
  unfold red cdv at q
  unfold cdv at hn hz
  rw [if_neg (by omega)] at q hn hz
  have hp : 0 < (((Nat.gcd (Nat.gcd a.natAbs b.natAbs) d.natAbs : Nat)) : Int) := by omega
  have hl : (((Nat.gcd (Nat.gcd a.natAbs b.natAbs) d.natAbs : Nat)) : Int).natAbs.log2 < 9000 := by
    have := hz.log
    omega
  rw [Int.fdiv_eq_ediv_of_nonneg _ (by omega), Int.fdiv_eq_ediv_of_nonneg _ (by omega), Int.fdiv_eq_ediv_of_nonneg _ (by omega)] at q
  have eg : Nat.gcd (Nat.gcd d.natAbs a.natAbs) b.natAbs = Nat.gcd (Nat.gcd a.natAbs b.natAbs) d.natAbs := by
    rw [Nat.gcd_comm d.natAbs, Nat.gcd_assoc, Nat.gcd_comm d.natAbs, ← Nat.gcd_assoc]
  have ab : ∀ z : Int, (if z < 0 then -z else z).natAbs = z.natAbs ∧ 0 ≤ (if z < 0 then -z else z) := fun z => by split <;> omega
  have abz : ∀ {n : Nat} {z : Int}, Sz n z → Sz n (if z < 0 then -z else z) := fun h => by
    split
    · exact h.neg
    · exact h
  unfold g__law_golden
  conv => whnf
  refine ⟨_, _, rfl, by omega, (ab a).2, abz za, ?_⟩
  conv => whnf
  refine ⟨_, _, rfl, Int.natCast_nonneg _, (ab b).2, abz zb, ?_⟩
  rw [(ab a).1, (ab b).1, Int.natAbs_natCast, eg]
  conv => whnf
  refine ⟨hp, hl, ?_⟩
  conv => whnf
  refine ⟨hp, hl, ?_⟩
  conv => whnf
  refine ⟨hp, hl, ?_⟩
  exact ⟨(by show 3 ≤ sizeLine; decide), q⟩
theorem len__law_sides : ∀ W ds Q R, sp__law_sides W ds Q R → ds.length = 2 := by
  rintro W ds Q R ⟨a, b, d, rfl, _⟩
  rfl
theorem law__law_sides : ∀ W ds Q R, sp__law_sides W ds Q R → g__law_sides W R (endsD Q) (startD 9 ds) := by
  rintro W ds Q R ⟨a, b, d, rfl, h1, h, q⟩
  unfold g__law_sides
  conv => whnf
  refine ⟨a, b, d, rfl, h1, ?_⟩
  have hw := whL_mem (d := d) h
  generalize whL a b d = wl at *
  simp only [WL, List.mem_cons, List.not_mem_nil, or_false] at hw
  rcases hw with rfl | rfl | rfl | rfl | rfl | rfl | rfl
  · ((conv => whnf); repeat decreasing_trivial_pre_omega)
    exact q
  · ((conv => whnf); repeat decreasing_trivial_pre_omega)
    exact q
  · ((conv => whnf); repeat decreasing_trivial_pre_omega)
    exact q
  · ((conv => whnf); repeat decreasing_trivial_pre_omega)
    exact q
  · ((conv => whnf); repeat decreasing_trivial_pre_omega)
    exact q
  · ((conv => whnf); repeat decreasing_trivial_pre_omega)
    exact q
  · ((conv => whnf); repeat decreasing_trivial_pre_omega)
    refine forL_in ?_
    refine forG_rng (S := fun n σ => ∃ v5 v6 v7 v8, σ = [.d (.int d), .d (keysP a b), .d (.lst (dirs5.map .int)), .d (tD (rot5 n)), .ol ((acc10 n).map tD), v5, v6, v7, v8]) 0 5 _ ⟨_, _, _, _, rfl⟩ ?_ ?_
    · rintro σ ⟨v5, v6, v7, v8, rfl⟩
      conv => whnf
      refine sort_is acc10_five acc10_perm ten5_srt ?_
      exact q
    · rintro j hj σ ⟨v5, v6, v7, v8, rfl⟩ E' hrt hnx hct
      match j, hj with
      | 0, _ => ((conv => whnf); repeat decreasing_trivial_pre_omega); exact hnx _ ⟨_, _, _, _, rfl⟩
      | 1, _ => ((conv => whnf); repeat decreasing_trivial_pre_omega); exact hnx _ ⟨_, _, _, _, rfl⟩
      | 2, _ => ((conv => whnf); repeat decreasing_trivial_pre_omega); exact hnx _ ⟨_, _, _, _, rfl⟩
      | 3, _ => ((conv => whnf); repeat decreasing_trivial_pre_omega); exact hnx _ ⟨_, _, _, _, rfl⟩
      | 4, _ => ((conv => whnf); repeat decreasing_trivial_pre_omega); exact hnx _ ⟨_, _, _, _, rfl⟩
theorem len_taken : ∀ W ds Q R, sp_taken W ds Q R → ds.length = 2 := by
  rintro W ds Q R ⟨n, m, a, b, d, c, e, f, rfl, _⟩
  rfl
theorem law_taken : ∀ W ds Q R, sp_taken W ds Q R → g_taken W R (endsD Q) (startD 2 ds) := by
  rintro W ds Q R ⟨n, m, a, b, d, c, e, f, rfl, h, k, l, sd, sf, q⟩
  simp [g_taken, startD]
  exact ⟨c, e, f, rfl, n, m, a, b, d, -c, -e, f, rfl, h, k.neg, l, sd, sf, q⟩
theorem len_divided : ∀ W ds Q R, sp_divided W ds Q R → ds.length = 2 := by
  rintro W ds Q R ⟨n, m, a, b, d, c, e, f, rfl, _⟩
  rfl
theorem law_divided : ∀ W ds Q R, sp_divided W ds Q R → g_divided W R (endsD Q) (startD 6 ds) := by
  rintro W ds Q R ⟨n, m, a, b, d, c, e, f, rfl, h, k, l, m2, sd, h0, q⟩
  obtain ⟨z1, z2, z3, z4⟩ := quo_sz h k
  have hN := norm_ne h0
  have hd := h.2.2.2
  have e1 : a * (c + e) + b * -e = a * (c + e) - b * e := by rw [Int.mul_neg]; rfl
  have e2 : a * -e + b * (c + e) + b * -e = b * c - a * e := by
    rw [Int.mul_neg, Int.mul_neg, Int.mul_add]
    omega
  have o1 : MulOk c c := k.1.ok k.1 (by omega)
  have o2 : MulOk c e := k.1.ok k.2.1 (by omega)
  have o3 : MulOk e e := k.2.1.ok k.2.1 (by omega)
  have o4 : MulOk (a * (c + e) - b * e) f := z1.ok k.2.2.1 (by omega)
  have o5 : MulOk (b * c - a * e) f := z2.ok k.2.2.1 (by omega)
  have o6 : MulOk (c * c + c * e - e * e) d := z3.ok h.2.2.1 (by omega)
  have s1 : Sz 4400 (1 : Int) := Sz.mono (n := 20) (by decide) (by decide)
  have k2 : Num (m + 1) (c + e) (-e) 1 := ⟨z4, k.2.1.neg.mono (by omega), by
    show (1 : Int).natAbs < 2 ^ (m + 1)
    have : 1 ≤ 2 ^ m := Nat.one_le_two_pow
    rw [Nat.pow_succ]
    have : (1 : Int).natAbs = 1 := rfl
    omega, by decide⟩
  simp [g_divided, startD]
  refine ⟨n, m + 1, a, b, 1, c + e, -e, 1, rfl, h.one, k2, by omega, s1, s1, ?_⟩
  rw [e1, e2, show (1 : Int) * 1 = 1 by decide, red_one]
  simp [o1, o2, o3, o4, o5, o6]
  exact ⟨_, _, _, rfl, (z3.mul sd).mono (by omega), Int.mul_ne_zero hN (by omega), q⟩
theorem len_floor_has_bar : ∀ W ds Q R, sp_floor_has_bar W ds Q R → ds.length = 2 := by
  rintro W ds Q R ⟨j, x, y, a, b, d, s, rfl, _⟩
  rfl
theorem law_floor_has_bar : ∀ W ds Q R, sp_floor_has_bar W ds Q R → g_floor_has_bar W R (endsD Q) (startD 2 ds) := by
  rintro W ds Q R ⟨j, x, y, a, b, d, s, rfl, h, hs, j0, j4, hx, hy, q⟩
  unfold hasR at q
  unfold g_floor_has_bar
  conv => whnf
  refine ⟨j, x, y, 1, -1, a, b, d, s, rfl, h, hs, j0, j4, hx, hy, by decide, by decide, ?_⟩
  conv => whnf
  by_cases c : 0 < phS a b d s j x y 1 (-1)
  · rw [decide_eq_true c] at q
    rw [show decide (phS a b d s j x y 1 (-1) > 0) = true from decide_eq_true c]
    conv => whnf
    refine ⟨j, x, y, 1, 0, a, b, d, s, rfl, h, hs, j0, j4, hx, hy, by decide, by decide, ?_⟩
    conv => whnf
    exact q
  · rw [decide_eq_false c] at q
    rw [show decide (phS a b d s j x y 1 (-1) > 0) = false from decide_eq_false c]
    conv => whnf
    exact q
theorem len_is_long : ∀ W ds Q R, sp_is_long W ds Q R → ds.length = 2 := by
  rintro W ds Q R ⟨j, x, y, a, b, d, s, rfl, _⟩
  rfl
theorem law_is_long : ∀ W ds Q R, sp_is_long W ds Q R → g_is_long W R (endsD Q) (startD 2 ds) := by
  rintro W ds Q R ⟨j, x, y, a, b, d, s, rfl, h, hs, j0, j4, hx, hy, q⟩
  unfold g_is_long
  conv => whnf
  refine ⟨j, x, y, 0, 0, a, b, d, s, rfl, h, hs, j0, j4, hx, hy, by decide, by decide, ?_⟩
  conv => whnf
  exact q
theorem len_sides_of : ∀ W ds Q R, sp_sides_of W ds Q R → ds.length = 1 := by
  rintro W ds Q R ⟨a, b, d, rfl, _⟩
  rfl
theorem law_sides_of : ∀ W ds Q R, sp_sides_of W ds Q R → g_sides_of W R (endsD Q) (startD 8 ds) := by
  rintro W ds Q R ⟨a, b, d, rfl, h, q⟩
  unfold g_sides_of
  conv => whnf
  refine ⟨a, b, d, rfl, h, ?_⟩
  have hw := whL_mem (d := d) h.r
  generalize whL a b d = wl at *
  simp only [WL, List.mem_cons, List.not_mem_nil, or_false] at hw
  rcases hw with rfl | rfl | rfl | rfl | rfl | rfl | rfl
  · ((conv => whnf); repeat decreasing_trivial_pre_omega)
    exact q
  · ((conv => whnf); repeat decreasing_trivial_pre_omega)
    exact q
  · ((conv => whnf); repeat decreasing_trivial_pre_omega)
    exact q
  · ((conv => whnf); repeat decreasing_trivial_pre_omega)
    exact q
  · ((conv => whnf); repeat decreasing_trivial_pre_omega)
    exact q
  · ((conv => whnf); repeat decreasing_trivial_pre_omega)
    exact q
  · ((conv => whnf); repeat decreasing_trivial_pre_omega)
    refine forL_in ?_
    refine forG_rng (S := fun n σ => ∃ v3 v4 v5 v6 v7, σ = [.d (keyD a b d), .d (.tup (dirs5.map .int)), .ol ((acc10 n).map tD), v3, v4, v5, v6, v7]) 0 5 _ ⟨_, _, _, _, _, rfl⟩ ?_ ?_
    · rintro σ ⟨v3, v4, v5, v6, v7, rfl⟩
      conv => whnf
      refine sort_is acc10_five acc10_perm ten5_srt ?_
      exact q
    · rintro j hj σ ⟨v3, v4, v5, v6, v7, rfl⟩ E' hrt hnx hct
      match j, hj with
      | 0, _ => ((conv => whnf); repeat decreasing_trivial_pre_omega); exact hnx _ ⟨_, _, _, _, _, rfl⟩
      | 1, _ => ((conv => whnf); repeat decreasing_trivial_pre_omega); exact hnx _ ⟨_, _, _, _, _, rfl⟩
      | 2, _ => ((conv => whnf); repeat decreasing_trivial_pre_omega); exact hnx _ ⟨_, _, _, _, _, rfl⟩
      | 3, _ => ((conv => whnf); repeat decreasing_trivial_pre_omega); exact hnx _ ⟨_, _, _, _, _, rfl⟩
      | 4, _ => ((conv => whnf); repeat decreasing_trivial_pre_omega); exact hnx _ ⟨_, _, _, _, _, rfl⟩
theorem len_is_bar : ∀ W ds Q R, sp_is_bar W ds Q R → ds.length = 1 := by
  rintro W ds Q R ⟨j, x, y, rfl, _⟩
  rfl
theorem law_is_bar : ∀ W ds Q R, sp_is_bar W ds Q R → g_is_bar W R (endsD Q) (startD 1 ds) := by
  rintro W ds Q R ⟨j, x, y, rfl, j0, j4, q⟩
  unfold g_is_bar
  ((conv => whnf); repeat decreasing_trivial_pre_omega)
  rw [show isDir (.int j) = true from decide_eq_true ⟨j0, j4⟩]
  ((conv => whnf); repeat decreasing_trivial_pre_omega)
  exact q
theorem len_need_direction : ∀ W ds Q R, sp_need_direction W ds Q R → ds.length = 1 := by
  rintro W ds Q R ⟨j, rfl, _⟩
  rfl
theorem law_need_direction : ∀ W ds Q R, sp_need_direction W ds Q R → g_need_direction W R (endsD Q) (startD 1 ds) := by
  rintro W ds Q R ⟨j, rfl, j0, j4, q⟩
  unfold g_need_direction
  ((conv => whnf); repeat decreasing_trivial_pre_omega)
  rw [show isDir (.int j) = true from decide_eq_true ⟨j0, j4⟩]
  ((conv => whnf); repeat decreasing_trivial_pre_omega)
  exact q
/-- a drawn bottom -/
def Bot (z : D) (m : Int) : Prop := z = .int m ∧ 1 ≤ m ∧ m ≤ 1000003
theorem num_sz {x m i : Int} (x0 : 0 ≤ x) (x1 : x < m) (hm : m ≤ 1000003) (h : Sz 120 i) : Sz 141 (x + m * i) ∧ MulOk m i := by
  have sm : Sz 20 m := by
    show m.natAbs < 2 ^ 20
    omega
  have sx : Sz 140 x := by
    have : Sz 20 x := by
      show x.natAbs < 2 ^ 20
      omega
    exact this.mono (by decide)
  exact ⟨sx.add (sm.mul h), sm.ok h (by decide)⟩
theorem bot_sz {m : Int} (h1 : 1 ≤ m) (h2 : m ≤ 1000003) : Sz 20 m := by
  show m.natAbs < 2 ^ 20
  omega
theorem len__law_world : ∀ W ds Q R, sp__law_world W ds Q R → ds.length = 2 := by
  rintro W ds Q R ⟨d, l, e, _, rfl, _⟩
  rfl
theorem law__law_world : ∀ W ds Q R, sp__law_world W ds Q R → g__law_world W R (endsD Q) (startD 7 ds) := by
  rintro W ds Q R ⟨d, l, e, rfl, rfl, q⟩
  unfold g__law_world
  cases e
  all_goals
    ((conv => whnf); repeat decreasing_trivial_pre_omega)
    refine ⟨_, _, _, rfl, .inr rfl, by decide, by decide, fun z hz => ?_⟩
    have hb : ∃ m, Bot z m := by
      simp only [List.mem_cons, List.not_mem_nil, or_false] at hz
      rcases hz with rfl | rfl | rfl | rfl | rfl | rfl | rfl | rfl | rfl | rfl | rfl | rfl | rfl | rfl | rfl | rfl <;> exact ⟨_, rfl, by decide, by decide⟩
    obtain ⟨m, rfl, m1, m2⟩ := hb
    clear hz
    conv => whnf
    refine ⟨_, _, _, rfl, rfl, by first | decide | omega, by first | decide | omega, fun r r0 r1 => ?_⟩
    conv => whnf
    refine ⟨_, _, _, rfl, rfl, by first | decide | omega, by first | decide | omega, fun x x0 x1 => ?_⟩
    conv => whnf
    refine ⟨_, _, _, rfl, rfl, by first | decide | omega, by first | decide | omega, fun y y0 y1 => ?_⟩
    ((conv => whnf); repeat decreasing_trivial_pre_omega)
    refine ⟨_, _, _, rfl, rfl, by first | decide | omega, by first | decide | omega, fun u u0 u1 => ?_⟩
    conv => whnf
    refine ⟨_, _, _, rfl, rfl, by first | decide | omega, by first | decide | omega, fun v v0 v1 => ?_⟩
    ((conv => whnf); repeat decreasing_trivial_pre_omega)
    intro i1 h1
    refine ⟨(num_sz (x := 0) (by decide) (by omega) m2 h1).2, ?_⟩
    ((conv => whnf); repeat decreasing_trivial_pre_omega)
    intro i2 h2
    refine ⟨(num_sz (x := 0) (by decide) (by omega) m2 h2).2, ?_⟩
    ((conv => whnf); repeat decreasing_trivial_pre_omega)
    intro i3 h3
    refine ⟨(num_sz (x := 0) (by decide) (by omega) m2 h3).2, ?_⟩
    ((conv => whnf); repeat decreasing_trivial_pre_omega)
    intro i4 h4
    refine ⟨(num_sz (x := 0) (by decide) (by omega) m2 h4).2, ?_⟩
    ((conv => whnf); repeat decreasing_trivial_pre_omega)
    refine ⟨_, _, _, _, _, 141, rfl, r0, by omega, ?a1, ?a2, (num_sz u0 u1 m2 h3).1, (num_sz v0 v1 m2 h4).1, fun a b hk _ _ _ _ sa sb => ?_⟩
    case a1 => first | exact (num_sz x0 x1 m2 h1).1 | exact (num_sz (x := 0) (by decide) (by omega) m2 h1).1
    case a2 => first | exact (num_sz y0 y1 m2 h2).1 | exact (num_sz (x := 0) (by decide) (by omega) m2 h2).1
    have ka : KA 160 a b m := (⟨hk, m1, (bot_sz m1 m2).mono (by decide), sa, sb⟩ : KA 144 a b m).up (by decide)
    conv => whnf
    refine ⟨a, b, m, rfl, m1, hk, ?_⟩
    have hw := whL_mem (d := m) hk
    conv => whnf
    refine ⟨d, l, _, rfl, .inl rfl, ?_, ?_, fun z hz => ?_⟩
    · rw [List.length_map]
      generalize whL a b m = wl at hw
      revert wl
      decide
    · rw [List.length_map]
      generalize whL a b m = wl at hw
      revert wl
      decide
    · obtain ⟨s, hs, rfl⟩ := List.mem_map.mp hz
      ((conv => whnf); repeat decreasing_trivial_pre_omega)
      exact q a b m s ⟨ka, hs, (bot_sz m1 m2).mono (by decide)⟩
theorem len__law_bar : ∀ W ds Q R, sp__law_bar W ds Q R → ds.length = 3 := by
  rintro W ds Q R ⟨a, b, d, s, j, n, rfl, _⟩
  rfl
theorem tie_ph {a b : Int → Int} {d : Int} {s : List Int} {j x y u v A B : Int} (e1 : A = bpA a d j x y u) (e2 : B = bpB b d j x v) : tieS A B (at0 s j) = phS a b d s j x y u v := by
  subst e1 e2
  rfl
theorem law__law_bar : ∀ W ds Q R, sp__law_bar W ds Q R → g__law_bar W R (endsD Q) (startD 10 ds) := by
  rintro W ds Q R ⟨a, b, d, s, j, n, rfl, h, sd, hs, j0, j4, hn, q⟩
  have F := h.fl hs
  have h5 : s.length = 5 := sidesL_five _ (whL_mem h.r) s hs
  have za := h.sa j j0 j4
  have zb := h.sb j j0 j4
  have one : ∀ {n : Nat}, Sz (n + 1) (1 : Int) := fun {n} => (by decide : Sz 1 (1 : Int)).mono (by omega)
  have zA : Sz 213 (d * n - d - a j) := ((((sd.mul hn)).sub (sd.mono (by decide))).mono (by decide : 211 ≤ 212)).sub (za.mono (by decide))
  have eA : (n - 1) * d - a j = d * n - d - a j := by grind
  have ef : flr (-b j - (d * n - d - a j)) (d * n - d - a j) d = bfl a b d j n := by
    unfold bfl
    rw [eA]
  have zf : Sz 220 (bfl a b d j n) := by
    rw [← ef]
    exact (flr_bound (n := 214) ((zb.neg.mono (by decide : 180 ≤ 213)).sub zA) (zA.mono (by decide)) h.d1).mono (by decide)
  have zq : Sz 230 (barX a b d s j n) := by
    unfold barX
    split
    · exact (zf.add (one (n := 219))).mono (by decide)
    · exact zf.mono (by decide)
  have q := q zq
  have ka1 : KA 1000 a b d := h.up (by decide)
  have zp : Sz 800 (d * n - a j) ∧ Sz 800 (-d * bfl a b d j n - b j) := ⟨((((h.sd.mul hn)).mono (by decide : 360 ≤ 361)).sub (za.mono (by decide))).mono (by decide), (((h.sd.neg.mul zf).mono (by decide : 180 + 220 ≤ 600)).sub (zb.mono (by decide))).mono (by decide)⟩
  rw [bar_law F j0 j4] at q
  unfold g__law_bar
  conv => whnf
  refine ⟨_, rfl, rfl, ?_⟩
  conv => whnf
  refine ⟨h.sd.ok hn (by decide), ?_⟩
  conv => whnf
  refine ix_keysP j0 j4 ?_
  ((conv => whnf); repeat decreasing_trivial_pre_omega)
  refine ix_keysP j0 j4 ?_
  ((conv => whnf); repeat decreasing_trivial_pre_omega)
  refine ⟨((zb.neg.mono (by decide : 180 ≤ 213)).sub zA).mono (by decide), zA.mono (by decide), h.d1, h.sd.mono (by decide), ?_⟩
  rw [ef]
  conv => whnf
  refine ⟨a, b, d, s, j, n, _, rfl, ka1, j0, j4, hn.mono (by decide), zf.mono (by decide), ?_⟩
  ((conv => whnf); repeat decreasing_trivial_pre_omega)
  refine at_five h5 j0 j4 ?_
  conv => whnf
  refine ⟨_, _, _, rfl, (zp.1.sub (h.sd.mono (by decide))).mono (by decide), zp.2.mono (by decide), ?_⟩
  rw [tie_ph (a := a) (b := b) (d := d) (s := s) (j := j) (x := bfl a b d j n) (y := n - bfl a b d j n) (u := 1) (v := 0) (by unfold bpA; grind) (by unfold bpB; grind)]
  conv => whnf
  by_cases c : 0 < phS a b d s j (bfl a b d j n) (n - bfl a b d j n) 1 0
  · rw [if_pos c] at q
    rw [show decide (phS a b d s j (bfl a b d j n) (n - bfl a b d j n) 1 0 > 0) = true from decide_eq_true c]
    ((conv => whnf); repeat decreasing_trivial_pre_omega)
    exact q
  · rw [if_neg c] at q
    rw [show decide (phS a b d s j (bfl a b d j n) (n - bfl a b d j n) 1 0 > 0) = false from decide_eq_false c]
    ((conv => whnf); repeat decreasing_trivial_pre_omega)
    exact q
theorem len__law_place : ∀ W ds Q R, sp__law_place W ds Q R → ds.length = 3 := by
  rintro W ds Q R ⟨dk, l, a, b, d, s, j, _, rfl, _⟩
  rfl
theorem law__law_place : ∀ W ds Q R, sp__law_place W ds Q R → g__law_place W R (endsD Q) (startD 6 ds) := by
  rintro W ds Q R ⟨dk, l, a, b, d, s, j, rfl, rfl, h, j0, j4, q⟩
  have dl : d.natAbs.log2 < 9000 := by
    have := h.sd.log
    omega
  have d0 : 0 < d := by
    have := h.d1
    omega
  unfold g__law_place
  conv => whnf
  refine ⟨_, rfl, rfl, ?_⟩
  conv => whnf
  refine ⟨a, b, d, rfl, h.d1, ?_⟩
  ((conv => whnf); repeat decreasing_trivial_pre_omega)
  refine ⟨pl_il 63 _, ?_⟩
  conv => whnf
  rw [inb_i]
  have num : gRet (gCall sp__law_number (some (dk, l)) R (ND.gCons (gVar 0) ND.gNil)) (endsD Q) [.d (dkD dk), .d (wrl a b d s), .d (.int j), .d (.int d), .d (keysP a b), .d (tD s)] := by
    conv => whnf
    exact ⟨dk, l, rfl, rfl, fun i hi => q i (hi.mono (by decide))⟩
  by_cases hm : j ∈ whL a b d
  · rw [decide_eq_true hm]
    conv => whnf
    refine ⟨_, _, _, rfl, rfl, by first | decide | omega, by first | decide | omega, fun x x0 x1 => ?_⟩
    conv => whnf
    by_cases hx : 0 < x
    · rw [show decide (x > 0) = true from decide_eq_true hx]
      conv => whnf
      refine ix_keysP j0 j4 ?_
      ((conv => whnf); repeat decreasing_trivial_pre_omega)
      refine ⟨d0, dl, ?_⟩
      ((conv => whnf); repeat decreasing_trivial_pre_omega)
      refine ⟨_, _, _, rfl, rfl, by first | decide | omega, by first | decide | omega, fun y y0 y1 => ?_⟩
      ((conv => whnf); repeat decreasing_trivial_pre_omega)
      refine q _ ?_
      have z1 := fdiv_one (h.sa j j0 j4) h.d1
      have z2 : Sz 171 y := (show Sz 20 y from Sz.small (by omega) (by omega)).mono (by decide)
      exact ((z1.add z2).sub ((by decide : Sz 3 (3 : Int)).mono (by decide : 3 ≤ 172))).mono (by decide)
    · rw [show decide (x > 0) = false from decide_eq_false hx]
      exact num
  · rw [decide_eq_false hm]
    exact num
theorem len_next_bar : ∀ W ds Q R, sp_next_bar W ds Q R → ds.length = 2 := by
  rintro W ds Q R ⟨j, x, y, a, b, d, s, rfl, _⟩
  rfl
theorem law_next_bar : ∀ W ds Q R, sp_next_bar W ds Q R → g_next_bar W R (endsD Q) (startD 5 ds) := by
  rintro W ds Q R ⟨j, x, y, a, b, d, s, rfl, h, hs, j0, j4, hx, hy, q⟩
  unfold g_next_bar
  conv => whnf
  refine ⟨_, rfl, rfl, ?_⟩
  conv => whnf
  refine ⟨j, x, y, a, b, d, s, rfl, h, hs, j0, j4, hx, hy, ?_⟩
  by_cases c : 0 < phS a b d s j x y 0 0
  · rw [if_pos c] at q
    rw [decide_eq_true c]
    ((conv => whnf); repeat decreasing_trivial_pre_omega)
    exact q
  · rw [if_neg c] at q
    rw [decide_eq_false c]
    ((conv => whnf); repeat decreasing_trivial_pre_omega)
    exact q
theorem len_bar_by : ∀ W ds Q R, sp_bar_by W ds Q R → ds.length = 3 := by
  rintro W ds Q R ⟨j, n, a, b, d, s, rfl, _⟩
  rfl
theorem bfl_sz {a b : Int → Int} {d j n : Int} (h : KA 400 a b d) (j0 : 0 ≤ j) (j4 : j ≤ 4) (hn : Sz 400 n) : Sz 808 (bfl a b d j n) := by
  have za := h.sa j j0 j4
  have zb := h.sb j j0 j4
  have one : Sz 400 (1 : Int) := (by decide : Sz 1 (1 : Int)).mono (by decide)
  have zn : Sz 802 ((n - 1) * d - a j) := ((((hn.sub one).mul h.sd).mono (by decide : 401 + 400 ≤ 801))).sub (za.mono (by decide))
  exact flr_bound ((zb.neg.mono (by decide : 400 ≤ 802)).sub zn) (zn.mono (by decide)) h.d1 |>.mono (by decide)
theorem law_bar_by : ∀ W ds Q R, sp_bar_by W ds Q R → g_bar_by W R (endsD Q) (startD 8 ds) := by
  rintro W ds Q R ⟨j, n, a, b, d, s, rfl, h, hs, j0, j4, hn, q⟩
  have k4 : KA 4000 a b d := h.up (by decide)
  obtain ⟨u, v, w, e, ⟨hu, hv, hw, w1⟩, e1, e2⟩ := h.fr j0 j4
  have one : ∀ {n : Nat}, Sz (n + 1) (1 : Int) := fun {n} => (by decide : Sz 1 (1 : Int)).mono (by omega)
  have zb := bfl_sz h j0 j4 hn
  have zn : Sz 401 (n - 1) := hn.sub one
  have zA : Sz 810 ((n - 1) * w - u) := (((zn.mul hw).mono (by decide : 401 + 400 ≤ 809))).sub (hu.mono (by decide))
  have ef : flr (-v - ((n - 1) * w - u)) ((n - 1) * w - u) w = bfl a b d j n := by
    unfold bfl
    exact flr_cong w1 h.d1 (by grind) (by grind)
  have zx : Sz 809 (bfl a b d j n + 1) := zb.add one
  have zy : Sz 810 (n - (bfl a b d j n + 1)) := (hn.mono (by decide)).sub zx
  have zq : Sz 810 (barX a b d s j n) := by
    unfold barX
    split
    · exact zx.mono (by decide)
    · exact zb.mono (by decide)
  have q := q zq
  unfold barX at q
  unfold g_bar_by
  conv => whnf
  refine fld_k ?_
  ((conv => whnf); repeat decreasing_trivial_pre_omega)
  refine ix_key (a := a) (b := b) (d := d) j0 j4 ?_
  rw [e]
  ((conv => whnf); repeat decreasing_trivial_pre_omega)
  refine ⟨zn.ok hw (by decide), ?_⟩
  ((conv => whnf); repeat decreasing_trivial_pre_omega)
  refine ⟨⟨((hv.neg.mono (by decide : 400 ≤ 810)).sub zA).mono (by decide), zA.mono (by decide), hw.mono (by decide), w1⟩, ?_⟩
  rw [ef]
  ((conv => whnf); repeat decreasing_trivial_pre_omega)
  refine ⟨j, _, _, a, b, d, s, rfl, k4, hs, j0, j4, zx.mono (by decide), zy.mono (by decide), ?_⟩
  cases c : hasR a b d s j (bfl a b d j n + 1) (n - (bfl a b d j n + 1))
  · rw [c, if_neg (by decide)] at q
    ((conv => whnf); repeat decreasing_trivial_pre_omega)
    rw [show bfl a b d j n + 1 - 1 = bfl a b d j n by omega, show n - (bfl a b d j n + 1) + 1 = n - bfl a b d j n by omega]
    exact q
  · rw [c, if_pos rfl] at q
    ((conv => whnf); repeat decreasing_trivial_pre_omega)
    exact q
theorem len_keys_from : ∀ W ds Q R, sp_keys_from W ds Q R → ds.length = 2 := by
  rintro W ds Q R ⟨x, y, a, b, d, rfl, _⟩
  rfl
theorem law_keys_from : ∀ W ds Q R, sp_keys_from W ds Q R → g_keys_from W R (endsD Q) (startD 4 ds) := by
  rintro W ds Q R ⟨x, y, a, b, d, rfl, h, ⟨u, v, w, rfl, hx, e1, e2⟩, ⟨u', v', w', rfl, hy, f1, f2⟩, q⟩
  have hd := h.d1
  obtain ⟨k0, k1, k2⟩ := h.r
  have nn : ∀ {x y z : Int}, Num 4000 x y z → Num 4001 (-y) (-(x + y)) z := fun n => ⟨n.2.1.neg.mono (by decide), (n.1.add n.2.1).neg, n.2.2.1.mono (by decide), n.2.2.2⟩
  unfold g_keys_from
  ((conv => whnf); repeat decreasing_trivial_pre_omega)
  refine ⟨hx.2.2.1.mono (by decide), by have := hx.2.2.2; omega, ?_⟩
  rw [Fr.norm hx.2.2.2 hd e1 e2]
  ((conv => whnf); repeat decreasing_trivial_pre_omega)
  refine ⟨hy.2.2.1.mono (by decide), by have := hy.2.2.2; omega, ?_⟩
  rw [Fr.norm hy.2.2.2 hd f1 f2]
  obtain ⟨x0, y0, z0, g0, n0, p0, q0⟩ := h.fr (r := 0) (by decide) (by decide)
  obtain ⟨x1, y1, z1, g1, n1, p1, q1⟩ := h.fr (r := 1) (by decide) (by decide)
  obtain ⟨x2, y2, z2, g2, n2, p2, q2⟩ := h.fr (r := 2) (by decide) (by decide)
  obtain ⟨x3, y3, z3, g3, n3, p3, q3⟩ := h.fr (r := 3) (by decide) (by decide)
  rw [g0, g1]
  ((conv => whnf); repeat decreasing_trivial_pre_omega)
  refine forL_in ?_
  ((conv => whnf); repeat decreasing_trivial_pre_omega)
  refine ⟨4001, 4000, _, _, _, _, _, _, rfl, nn n1, n0, by decide, n1.2.2.1.mono (by decide), n0.2.2.1.mono (by decide), ?_⟩
  rw [key_next k0.1 k0.2 p0 q0 p1 q1 n1.2.2.2 n0.2.2.2 hd]
  rw [g2]
  ((conv => whnf); repeat decreasing_trivial_pre_omega)
  refine ⟨4001, 4000, _, _, _, _, _, _, rfl, nn n2, n1, by decide, n2.2.2.1.mono (by decide), n1.2.2.1.mono (by decide), ?_⟩
  rw [key_next k1.1 k1.2 p1 q1 p2 q2 n2.2.2.2 n1.2.2.2 hd]
  rw [g3]
  ((conv => whnf); repeat decreasing_trivial_pre_omega)
  refine ⟨4001, 4000, _, _, _, _, _, _, rfl, nn n3, n2, by decide, n3.2.2.1.mono (by decide), n2.2.2.1.mono (by decide), ?_⟩
  rw [key_next k2.1 k2.2 p2 q2 p3 q3 n3.2.2.2 n2.2.2.2 hd]
  ((conv => whnf); repeat decreasing_trivial_pre_omega)
  have e : keyD a b d = .tup [tri x0 y0 z0, tri x1 y1 z1, tri x2 y2 z2, tri x3 y3 z3, red (a 4) (b 4) d] := by
    unfold keyD
    rw [g0, g1, g2, g3]
  rw [e] at q
  exact q
theorem len_is_side : ∀ W ds Q R, sp_is_side W ds Q R → ds.length = 2 := by
  rintro W ds Q R ⟨x, a, b, d, rfl, _⟩
  rfl
theorem law_is_side : ∀ W ds Q R, sp_is_side W ds Q R → g_is_side W R (endsD Q) (startD 3 ds) := by
  rintro W ds Q R ⟨x, a, b, d, rfl, h, hx, q⟩
  unfold g_is_side
  conv => whnf
  refine ⟨knTup, hx.1, ?_⟩
  cases x with
  | tup xs =>
    have hy := hx.2 xs rfl
    have e : isSide (whL a b d) (.tup xs) = (decide (xs.length = 5) && (xs.all isI) && inb (.tup xs) ((sidesL (whL a b d)).map tD)) := rfl
    rw [e] at q
    conv => whnf
    refine ⟨rfl, rfl, ?_⟩
    conv => whnf
    have e5 : eqb (.int (xs.length : Nat)) (.int 5) = decide (xs.length = 5) := by
      rw [eqb_int]
      exact decide_eq_decide.mpr (by omega)
    rw [e5]
    by_cases hl : xs.length = 5
    · rw [decide_eq_true hl] at q ⊢
      conv => whnf
      refine all_lcP _ isi_hs (by show 2 < 3; decide) xs [] hy (by simp [hl]) ?_
      rw [List.nil_append]
      refine ⟨_, bls_map _ _, ?_⟩
      have ea : (xs.map isI).all id = xs.all isI := by rw [List.all_map]; rfl
      conv => whnf
      rw [ea]
      cases ha : xs.all isI
      · rw [ha] at q
        exact q
      · rw [ha] at q
        conv => whnf
        refine ⟨a, b, d, rfl, h, ?_⟩
        have el := tup_tD ha
        rw [el] at q ⊢
        refine ⟨pl_tD 63 _, (pl_tDs 62 _).1, ?_⟩
        exact q
    · rw [decide_eq_false hl] at q ⊢
      exact q
  | _ => exact q
theorem len_need_bar : ∀ W ds Q R, sp_need_bar W ds Q R → ds.length = 1 := by
  rintro W ds Q R ⟨j, x, y, rfl, _⟩
  rfl
theorem law_need_bar : ∀ W ds Q R, sp_need_bar W ds Q R → g_need_bar W R (endsD Q) (startD 1 ds) := by
  rintro W ds Q R ⟨j, x, y, rfl, j0, j4, q⟩
  unfold g_need_bar
  conv => whnf
  refine ⟨j, x, y, rfl, j0, j4, ?_⟩
  conv => whnf
  exact q
theorem len_has_bar : ∀ W ds Q R, sp_has_bar W ds Q R → ds.length = 2 := len_floor_has_bar
theorem law_has_bar : ∀ W ds Q R, sp_has_bar W ds Q R → g_has_bar W R (endsD Q) (startD 2 ds) := by
  rintro W ds Q R ⟨j, x, y, a, b, d, s, rfl, h, hs, j0, j4, hx, hy, q⟩
  unfold g_has_bar
  conv => whnf
  refine ⟨j, x, y, rfl, j0, j4, ?_⟩
  conv => whnf
  exact ⟨j, x, y, a, b, d, s, rfl, h, hs, j0, j4, hx, hy, q⟩
theorem len_Floor : ∀ W ds Q R, sp_Floor W ds Q R → ds.length = 3 := by
  rintro W ds Q R ⟨x, y, s, a, b, d, rfl, _⟩
  rfl
theorem law_Floor : ∀ W ds Q R x, sp_Floor W ds Q R → g_Floor W R (endsI x "Floor" Q) (startI 6 x "Floor" ds) := by
  rintro W ds Q R z ⟨x, y, s, a, b, d, rfl, h, hx, hy, hs, q⟩
  obtain ⟨u, v, w, rfl, nx, e1, e2⟩ := id hx
  obtain ⟨u', v', w', rfl, ny, f1, f2⟩ := id hy
  unfold g_Floor
  ((conv => whnf); repeat decreasing_trivial_pre_omega)
  refine forL_in ?_
  ((conv => whnf); repeat decreasing_trivial_pre_omega)
  refine ⟨tyk1_tri .., ?_⟩
  rw [num_tri nx.2.2.2]
  ((conv => whnf); repeat decreasing_trivial_pre_omega)
  refine ⟨tyk1_tri .., ?_⟩
  rw [num_tri ny.2.2.2]
  ((conv => whnf); repeat decreasing_trivial_pre_omega)
  refine ⟨_, _, a, b, d, rfl, h, hx, hy, ?_⟩
  conv => whnf
  refine ⟨_, a, b, d, rfl, h, tyk1_tD s, ?_⟩
  rw [isSide_yes (whL_mem h.r) hs]
  conv => whnf
  refine ⟨_, _, _, rfl, fldO_Floor_all_keys, show 0 < 1000 by decide, ?_⟩
  conv => whnf
  refine ⟨_, _, _, rfl, fldO_Floor_side, show 1 < 1000 by decide, ?_⟩
  conv => whnf
  refine ⟨_, rfl, ?_⟩
  have e : putFD "side" (tD s) (putFD "all_keys" (keyD a b d) []) = ([("all_keys", keyD a b d), ("side", tD s)] : List (Str × D)) := by
    simp [putFD]
    decide +kernel
  rw [e]
  exact q
theorem len_phase_of : ∀ W ds Q R, sp_phase_of W ds Q R → ds.length = 2 := by
  rintro W ds Q R ⟨j, x, y, a, b, d, s, rfl, _⟩
  rfl
theorem law_phase_of : ∀ W ds Q R, sp_phase_of W ds Q R → g_phase_of W R (endsD Q) (startD 5 ds) := by
  rintro W ds Q R ⟨j, x, y, a, b, d, s, rfl, h, j0, j4, hx, hy, q⟩
  unfold g_phase_of
  conv => whnf
  refine ⟨j, x, y, rfl, j0, j4, ?_⟩
  conv => whnf
  refine ⟨j, x, y, a, b, d, s, rfl, h, j0, j4, hx, hy, fun u v w hn e1 e2 => ?_⟩
  conv => whnf
  refine ⟨_, rfl, rfl, ?_⟩
  conv => whnf
  refine ⟨_, _, _, rfl, hn.2.2.1.mono (by decide), by have := hn.2.2.2; omega, ?_⟩
  rw [red_cong (a' := (x + y) * d - a j) (b' := -x * d - b j) (d' := d) hn.2.2.2 h.d1 (by grind) (by grind)]
  exact q
theorem len__law_floor : ∀ W ds Q R, sp__law_floor W ds Q R → ds.length = 2 := by
  rintro W ds Q R ⟨d, l, a, b, m, s, _, rfl, _⟩
  rfl
theorem law__law_floor : ∀ W ds Q R, sp__law_floor W ds Q R → g__law_floor W R (endsD Q) (startD 8 ds) := by
  rintro W ds Q R ⟨d, l, a, b, m, s, rfl, rfl, ⟨h, hs⟩, q⟩
  have k4 := h.up (by decide : 1000 ≤ 4000)
  unfold g__law_floor
  ((conv => whnf); repeat decreasing_trivial_pre_omega)
  refine ⟨_, _, _, rfl, .inr rfl, by decide, by decide, fun z hz => ?_⟩
  have hb : ∃ k, z = .int k ∧ 1 ≤ k ∧ k ≤ 3 := by
    simp only [List.mem_cons, List.not_mem_nil, or_false] at hz
    rcases hz with rfl | rfl | rfl | rfl <;> exact ⟨_, rfl, by decide, by decide⟩
  obtain ⟨k, rfl, k1, k3⟩ := hb
  clear hz
  have zk : Sz 20 k := Sz.small (by omega) (by omega)
  have ok : ∀ {x : Int}, Sz 1000 x → MulOk x k := fun hx => hx.ok zk (by decide)
  have fr : ∀ {x y : Int}, Sz 1000 x → Sz 1000 y → Fr 4000 (tri (x * k) (y * k) (m * k)) x y m := fun {x y} hx hy => by
    refine ⟨_, _, _, rfl, ⟨(hx.mul zk).mono (by decide), (hy.mul zk).mono (by decide), (h.sd.mul zk).mono (by decide), ?_⟩, ?_, ?_⟩
    · exact Int.le_trans (by decide : (1 : Int) ≤ 1 * 1) (Int.mul_le_mul h.d1 k1 (by decide) (by have := h.d1; omega))
    · rw [Int.mul_assoc, Int.mul_comm k m]
    · rw [Int.mul_assoc, Int.mul_comm k m]
  have f0 := fr (h.sa 0 (by decide) (by decide)) (h.sb 0 (by decide) (by decide))
  have f1 := fr (h.sa 1 (by decide) (by decide)) (h.sb 1 (by decide) (by decide))
  ((conv => whnf); repeat decreasing_trivial_pre_omega)
  refine ⟨ok (h.sa 0 (by decide) (by decide)), ?_⟩
  ((conv => whnf); repeat decreasing_trivial_pre_omega)
  refine ⟨ok (h.sb 0 (by decide) (by decide)), ?_⟩
  ((conv => whnf); repeat decreasing_trivial_pre_omega)
  refine ⟨ok h.sd, ?_⟩
  ((conv => whnf); repeat decreasing_trivial_pre_omega)
  refine ⟨ok (h.sa 1 (by decide) (by decide)), ?_⟩
  ((conv => whnf); repeat decreasing_trivial_pre_omega)
  refine ⟨ok (h.sb 1 (by decide) (by decide)), ?_⟩
  ((conv => whnf); repeat decreasing_trivial_pre_omega)
  refine ⟨ok h.sd, ?_⟩
  ((conv => whnf); repeat decreasing_trivial_pre_omega)
  refine ⟨pl_tD 63 s, rfl, ?_⟩
  have e0 : eqb (tD s) (.tup [.int 0, .int 0, .int 0, .int 0, .int 0]) = decide (s = zer5) := eqb_tD s zer5
  have fin : sp_Floor (some (d, l)) [tri (a 0 * k) (b 0 * k) (m * k), tri (a 1 * k) (b 1 * k) (m * k), tD s] Q R := ⟨_, _, s, a, b, m, rfl, k4, f0, f1, hs, q⟩
  conv => whnf
  rw [e0]
  by_cases hz : s = zer5
  · subst hz
    rw [decide_eq_true rfl]
    conv => whnf
    refine ⟨rfl, rfl, ?_⟩
    conv => whnf
    cases eqb (.int k) (.int 1)
    · ((conv => whnf); repeat decreasing_trivial_pre_omega)
      exact fin
    · ((conv => whnf); repeat decreasing_trivial_pre_omega)
      exact fin
  · rw [decide_eq_false hz]
    ((conv => whnf); repeat decreasing_trivial_pre_omega)
    exact fin
theorem len_height_by : ∀ W ds Q R, sp_height_by W ds Q R → ds.length = 1 := by
  rintro W ds Q R ⟨j, x, y, rfl, _⟩
  rfl
theorem len_height_of : ∀ W ds Q R, sp_height_of W ds Q R → ds.length = 1 := by
  rintro W ds Q R ⟨j, x, y, rfl, _⟩
  rfl
theorem len__law_bar_height : ∀ W ds Q R, sp__law_bar_height W ds Q R → ds.length = 1 := by
  rintro W ds Q R ⟨j, x, y, rfl, _⟩
  rfl
theorem len__law_compared : ∀ W ds Q R, sp__law_compared W ds Q R → ds.length = 2 := by
  rintro W ds Q R ⟨j, x, y, u, v, w, rfl, _⟩
  rfl
theorem h_sz {x y : Int} (hx : Sz 1000 x) (hy : Sz 1000 y) : Sz 1006 (hA x y) ∧ Sz 1006 (hB x y) ∧ MulOk 4 x ∧ MulOk 2 y ∧ MulOk 2 x ∧ MulOk 4 y := by
  have z4 : Sz 3 (4 : Int) := by decide
  have z2 : Sz 3 (2 : Int) := by decide
  refine ⟨?_, ?_, z4.ok hx (by decide), z2.ok hy (by decide), z2.ok hx (by decide), z4.ok hy (by decide)⟩
  · exact Sz.mono (((z4.mul hx).sub (z2.mul hy)).sub (Sz.mono (show Sz 1 1 by decide) (by decide))) (by decide)
  · exact Sz.mono (((z2.mul hx).add (z4.mul hy)).sub (Sz.mono (show Sz 3 3 by decide) (by decide))) (by decide)
theorem law__law_bar_height : ∀ W ds Q R, sp__law_bar_height W ds Q R → g__law_bar_height W R (endsD Q) (startD 4 ds) := by
  rintro W ds Q R ⟨j, x, y, rfl, hx, hy, q⟩
  obtain ⟨_, _, m1, m2, m3, m4⟩ := h_sz hx hy
  unfold g__law_bar_height
  conv => whnf
  refine ⟨_, rfl, rfl, ?_⟩
  conv => whnf
  refine ⟨m1, ?_⟩
  conv => whnf
  refine ⟨m2, ?_⟩
  conv => whnf
  refine ⟨m3, ?_⟩
  conv => whnf
  refine ⟨m4, ?_⟩
  conv => whnf
  exact ⟨(show 2 ≤ sizeLine by decide), q⟩
theorem law_height_by : ∀ W ds Q R, sp_height_by W ds Q R → g_height_by W R (endsD Q) (startD 3 ds) := by
  rintro W ds Q R ⟨j, x, y, rfl, hx, hy, q⟩
  obtain ⟨_, _, m1, m2, m3, m4⟩ := h_sz hx hy
  unfold g_height_by
  iterate 2 ((conv => whnf); refine ⟨_, rfl, ?_⟩)
  conv => whnf
  refine ⟨rfl, ?_⟩
  conv => whnf
  refine ⟨m1, ?_⟩
  conv => whnf
  refine ⟨m2, ?_⟩
  conv => whnf
  refine ⟨m3, ?_⟩
  conv => whnf
  refine ⟨m4, ?_⟩
  conv => whnf
  exact ⟨_, _, 4, rfl, Sz.mono (show Sz 4 4 by decide) (by omega), by decide, q⟩
theorem law_height_of : ∀ W ds Q R, sp_height_of W ds Q R → g_height_of W R (endsD Q) (startD 1 ds) := by
  rintro W ds Q R ⟨j, x, y, rfl, j0, j4, hx, hy, q⟩
  unfold g_height_of
  conv => whnf
  refine ⟨j, x, y, rfl, j0, j4, ?_⟩
  conv => whnf
  exact ⟨j, x, y, rfl, hx, hy, q⟩
theorem law__law_compared : ∀ W ds Q R, sp__law_compared W ds Q R → g__law_compared W R (endsD Q) (startD 6 ds) := by
  rintro W ds Q R ⟨j, x, y, u, v, w, rfl, hx, hy, hu, hv, hw, q⟩
  obtain ⟨zA, zB, _⟩ := h_sz hx hy
  have z4 : Sz 3 (4 : Int) := by decide
  unfold g__law_compared
  conv => whnf
  refine ⟨_, rfl, rfl, ?_⟩
  conv => whnf
  refine ⟨j, x, y, rfl, hx, hy, ?_⟩
  iterate 1 ((conv => whnf); refine ⟨_, rfl, ?_⟩)
  conv => whnf
  refine ⟨zA.ok hw (by decide), ?_⟩
  conv => whnf
  refine ⟨z4.ok hu (by decide), ?_⟩
  iterate 1 ((conv => whnf); refine ⟨_, rfl, ?_⟩)
  conv => whnf
  refine ⟨zB.ok hw (by decide), ?_⟩
  conv => whnf
  refine ⟨z4.ok hv (by decide), ?_⟩
  conv => whnf
  exact ⟨_, _, rfl, Sz.mono ((zA.mul hw).sub (Sz.mono (z4.mul hu) (by omega : 1003 ≤ 2006))) (by omega), Sz.mono ((zB.mul hw).sub (Sz.mono (z4.mul hv) (by omega : 1003 ≤ 2006))) (by omega), q⟩
theorem len__law_below : ∀ W ds Q R, sp__law_below W ds Q R → ds.length = 3 := by
  rintro W ds Q R ⟨a, b, d, s, j, u, v, w, n0, rfl, _⟩
  rfl
theorem law__law_below : ∀ W ds Q R, sp__law_below W ds Q R → g__law_below W R (endsD Q) (startD 14 ds) := by
  rintro W ds Q R ⟨a, b, d, s, j, u, v, w, n0, rfl, h, sd, hs, j0, j4, hu, hv, hw, w1, zn, hn, q⟩
  have F := h.fl hs
  have d1 := h.d1
  have za := h.sa j j0 j4
  have zb := h.sb j j0 j4
  have z4 : Sz 3 (4 : Int) := by decide
  have z3 : Sz 3 (3 : Int) := by decide
  have z2 : Sz 3 (2 : Int) := by decide
  have z10 : Sz 4 (10 : Int) := by decide
  obtain ⟨n1, g1, g2, g3⟩ := ht_ex F j0 j4 w1 (u := u) (v := v)
  have e1 : n1 = n0 := by
    have x1 := (g3 (n0 + 1)).mp ((hn (n0 + 1)).mpr (by omega))
    have x2 := (hn (n1 + 1)).mp ((g3 (n1 + 1)).mpr (by omega))
    omega
  subst e1
  have s1 : Sz 177 (4 * b j) := Sz.mono (z4.mul zb) (by decide)
  have s2 : Sz 177 (2 * a j) := Sz.mono (z2.mul za) (by decide)
  have s3 : Sz 177 (4 * a j) := Sz.mono (z4.mul za) (by decide)
  have s4 : Sz 177 (2 * b j) := Sz.mono (z2.mul zb) (by decide)
  have s5 : Sz 179 (3 * d - 4 * b j + 2 * a j) := Sz.add (Sz.sub (n := 177) (Sz.mono (z3.mul sd) (by decide)) s1) (s2.mono (by decide))
  have s6 : Sz 179 (d + 4 * a j + 2 * b j) := Sz.add (Sz.add (n := 177) (sd.mono (by decide)) s3) (s4.mono (by decide))
  have s7 : Sz 243 (4 * u) := z4.mul hu
  have s8 : Sz 243 (4 * v) := z4.mul hv
  have s9 : Sz 274 (4 * u * d + w * (3 * d - 4 * b j + 2 * a j)) := Sz.add (n := 273) (s7.mul sd) (Sz.mono (hw.mul s5) (by decide))
  have s10 : Sz 274 (4 * v * d - w * (d + 4 * a j + 2 * b j)) := Sz.sub (n := 273) (s8.mul sd) (Sz.mono (hw.mul s6) (by decide))
  have s11 : Sz 34 (10 * d) := z10.mul sd
  have s12 : Sz 44 (10 * d * w) := s11.mul hw
  have dw10 : 1 ≤ 10 * d * w := by
    have := Int.mul_le_mul (show (1 : Int) ≤ 10 * d by omega) w1 (by decide) (by omega)
    omega
  have s13 : Sz 278 (gsX a b d j u v w) := flr_bound s9 s10 dw10
  have s14 : Sz 308 (d * gsX a b d j u v w) := Sz.mono (sd.mul s13) (by decide)
  have s15 : Sz 309 (a j - d * gsX a b d j u v w) := (za.mono (by decide : 170 ≤ 308)).sub s14
  have s16 : Sz 309 (b j + d * gsX a b d j u v w) := (zb.mono (by decide : 170 ≤ 308)).add s14
  unfold g__law_below
  conv => whnf
  refine ⟨_, rfl, rfl, ?_⟩
  conv => whnf
  refine ⟨_, rfl, rfl, ?_⟩
  conv => whnf
  refine ⟨z4.ok hu (by decide), ?_⟩
  conv => whnf
  refine ⟨s7.ok sd (by decide), ?_⟩
  conv => whnf
  refine ⟨z3.ok sd (by decide), ?_⟩
  conv => whnf
  refine ix_keysP j0 j4 ?_
  iterate 1 ((conv => whnf); refine ⟨_, rfl, ?_⟩)
  conv => whnf
  refine ⟨z4.ok zb (by decide), ?_⟩
  conv => whnf
  refine ix_keysP j0 j4 ?_
  iterate 1 ((conv => whnf); refine ⟨_, rfl, ?_⟩)
  conv => whnf
  refine ⟨z2.ok za (by decide), ?_⟩
  conv => whnf
  refine ⟨hw.ok s5 (by decide), ?_⟩
  conv => whnf
  refine ⟨z4.ok hv (by decide), ?_⟩
  conv => whnf
  refine ⟨s8.ok sd (by decide), ?_⟩
  conv => whnf
  refine ix_keysP j0 j4 ?_
  iterate 1 ((conv => whnf); refine ⟨_, rfl, ?_⟩)
  conv => whnf
  refine ⟨z4.ok za (by decide), ?_⟩
  conv => whnf
  refine ix_keysP j0 j4 ?_
  iterate 1 ((conv => whnf); refine ⟨_, rfl, ?_⟩)
  conv => whnf
  refine ⟨z2.ok zb (by decide), ?_⟩
  conv => whnf
  refine ⟨hw.ok s6 (by decide), ?_⟩
  conv => whnf
  refine ⟨z10.ok sd (by decide), ?_⟩
  conv => whnf
  refine ⟨s11.ok hw (by decide), ?_⟩
  conv => whnf
  refine ⟨_, _, _, rfl, s9.mono (by decide), s10.mono (by decide), dw10, s12.mono (by decide), ?_⟩
  rw [show flr (4 * u * d + w * (3 * d - 4 * b j + 2 * a j)) (4 * v * d - w * (d + 4 * a j + 2 * b j)) (10 * d * w) = gsX a b d j u v w from rfl]
  conv => whnf
  refine ix_keysP j0 j4 ?_
  iterate 1 ((conv => whnf); refine ⟨_, rfl, ?_⟩)
  conv => whnf
  refine ⟨sd.ok s13 (by decide), ?_⟩
  conv => whnf
  refine ix_keysP j0 j4 ?_
  iterate 1 ((conv => whnf); refine ⟨_, rfl, ?_⟩)
  conv => whnf
  refine ⟨sd.ok s13 (by decide), ?_⟩
  conv => whnf
  refine ⟨_, _, _, rfl, s15.mono (by decide), s16.mono (by decide), d1, sd.mono (by decide), ?_⟩
  rw [show flr (a j - d * gsX a b d j u v w) (b j + d * gsX a b d j u v w) d = gsG a b d j u v w from rfl]
  generalize gsX a b d j u v w = x0 at *
  generalize gsG a b d j u v w = G at *
  conv => whnf
  refine ⟨12, rfl, by decide, by decide, ?_⟩
  refine forL_in ?_
  refine forG_rng (S := fun i σ => ∃ v13, σ = [.d (wrl a b d s), .d (.int j), .d (tri u v w), .d (.int d), .d (keysP a b), .d (tD s), .d (.int u), .d (.int v), .d (.int w), .d (.int (4 * u * d + w * (3 * d - 4 * b j + 2 * a j))), .d (.int (4 * v * d - w * (d + 4 * a j + 2 * b j))), .d (.int x0), .d (.int (min (x0 + G - 3 + i) n1)), v13]) 0 12 _ ⟨.no, by rw [show min (x0 + G - 3 + ((0 : Nat) : Int)) n1 = x0 + G - 3 by omega]; rfl⟩ ?_ ?_
  · rintro σ ⟨v13, rfl⟩
    rw [show min (x0 + G - 3 + ((12 : Nat) : Int)) n1 = n1 by omega]
    conv => whnf
    exact q
  · rintro i hi σ ⟨v13, rfl⟩ E' hrt hnx hct
    obtain ⟨m, hm⟩ : ∃ m, m = min (x0 + G - 3 + (i : Int)) n1 := ⟨_, rfl⟩
    have zm : Sz 178 (m + 1) := by
      have t : Sz 20 (m + 1 - n1) := Sz.small (by omega) (by omega)
      have := zn.add (t.mono (by decide : 20 ≤ 176))
      rw [show n1 + (m + 1 - n1) = m + 1 by omega] at this
      exact this.mono (by decide)
    rw [← hm]
    conv => whnf
    refine ⟨a, b, d, s, j, m + 1, rfl, h.up (by decide), sd, hs, j0, j4, zm.mono (by decide), fun zx => ?_⟩
    have zy : Sz 231 (m + 1 - barX a b d s j (m + 1)) := (zm.mono (by decide : 178 ≤ 230)).sub zx
    conv => whnf
    refine ⟨j, _, _, u, v, w, rfl, zx.mono (by decide), zy.mono (by decide), hu.mono (by decide), hv.mono (by decide), hw.mono (by decide), ?_⟩
    rw [show cHt u v w (barX a b d s j (m + 1)) (m + 1 - barX a b d s j (m + 1)) = cHn a b d s j u v w (m + 1) from rfl]
    have hc := hn (m + 1)
    conv => whnf
    by_cases c : cHn a b d s j u v w (m + 1) ≤ 0
    · rw [decide_eq_true c]
      conv => whnf
      have : m + 1 = min (x0 + G - 3 + ((i + 1 : Nat) : Int)) n1 := by
        push_cast
        have : ¬ n1 < m + 1 := fun z => by
          have := hc.mpr z
          omega
        omega
      rw [this]
      exact hnx _ ⟨_, rfl⟩
    · rw [decide_eq_false c]
      conv => whnf
      have : m = min (x0 + G - 3 + ((i + 1 : Nat) : Int)) n1 := by
        push_cast
        have := hc.mp (by omega)
        omega
      rw [this]
      exact hnx _ ⟨_, rfl⟩
theorem len__law_height : ∀ W ds Q R, sp__law_height W ds Q R → ds.length = 4 := by
  rintro W ds Q R ⟨dk, l, a, b, d, s, j, n, _, rfl, _⟩
  rfl
theorem law__law_height : ∀ W ds Q R, sp__law_height W ds Q R → g__law_height W R (endsD Q) (startD 7 ds) := by
  rintro W ds Q R ⟨dk, l, a, b, d, s, j, n, rfl, rfl, h, sd, hs, j0, j4, hn, q⟩
  unfold g__law_height
  conv => whnf
  refine ⟨a, b, d, s, j, n, rfl, h.up (by decide), sd, hs, j0, j4, hn.mono (by decide), fun zx => ?_⟩
  have zy : Sz 231 (n - barX a b d s j n) := (hn.mono (by decide : 177 ≤ 230)).sub zx
  obtain ⟨zA, zB, _⟩ := h_sz (zx.mono (by decide)) (zy.mono (by decide))
  conv => whnf
  refine ⟨j, _, _, rfl, zx.mono (by decide), zy.mono (by decide), ?_⟩
  generalize hA (barX a b d s j n) (n - barX a b d s j n) = A at *
  generalize hB (barX a b d s j n) (n - barX a b d s j n) = B at *
  conv => whnf
  refine ⟨_, rfl, rfl, ?_⟩
  conv => whnf
  refine ⟨(show 5 ≤ sizeLine by decide), ?_⟩
  conv => whnf
  refine ⟨dk, l, _, rfl, .inr rfl, by decide, by decide, fun z hz => ?_⟩
  have hb : ∃ k : Int, z = .int k ∧ 1 ≤ k ∧ k ≤ 25 := by
    simp only [List.mem_cons, List.not_mem_nil, or_false] at hz
    rcases hz with rfl | rfl | rfl | rfl | rfl <;> exact ⟨_, rfl, by decide, by decide⟩
  obtain ⟨k, rfl, k1, k2⟩ := hb
  clear hz
  have zk : Sz 20 k := Sz.small (by omega) (by omega)
  have z4 : Sz 3 (4 : Int) := by decide
  conv => whnf
  refine ⟨_, _, _, rfl, rfl, by first | decide | omega, by first | decide | omega, fun t t0 t1 => ?_⟩
  conv => whnf
  refine ⟨rfl, rfl, ?_⟩
  rw [eqb_int]
  by_cases c : t = 0
  · rw [decide_eq_true c]
    conv => whnf
    refine ⟨zA.ok zk (by decide), ?_⟩
    conv => whnf
    refine ⟨zB.ok zk (by decide), ?_⟩
    conv => whnf
    refine ⟨z4.ok zk (by decide), ?_⟩
    conv => whnf
    refine ⟨(show 3 ≤ sizeLine by decide), ?_⟩
    have := q k 0 0 k1 k2 (by decide) (by decide) (by decide) (by decide)
    rw [Int.add_zero, Int.add_zero] at this
    exact this
  · rw [decide_eq_false c]
    conv => whnf
    refine ⟨zA.ok zk (by decide), ?_⟩
    conv => whnf
    refine ⟨_, _, _, rfl, rfl, by first | decide | omega, by first | decide | omega, fun e e0 e1 => ?_⟩
    conv => whnf
    refine ⟨zB.ok zk (by decide), ?_⟩
    conv => whnf
    refine ⟨_, _, _, rfl, rfl, by first | decide | omega, by first | decide | omega, fun f f0 f1 => ?_⟩
    conv => whnf
    refine ⟨z4.ok zk (by decide), ?_⟩
    conv => whnf
    refine ⟨(show 3 ≤ sizeLine by decide), ?_⟩
    have := q k (e - 4) (f - 2) k1 k2 (by omega) (by omega) (by omega) (by omega)
    rw [show A * k + (e - 4) = A * k + e - 4 by omega, show B * k + (f - 2) = B * k + f - 2 by omega] at this
    exact this
theorem two_up : ∀ e ∈ [(-4 : Int), -3, -2, -1, 0, 1, 2, 3, 4], ∀ f ∈ [(-2 : Int), -1, 0, 1, 2], psg (8 - e) (4 - f) = 1 ∧ psg (2 - e) (6 - f) = 1 ∧ psg (-4 - e) (8 - f) = 1 := by decide +kernel
theorem in9 {e : Int} (h1 : -4 ≤ e) (h2 : e ≤ 4) : e ∈ [(-4 : Int), -3, -2, -1, 0, 1, 2, 3, 4] := by
  simp only [List.mem_cons, List.not_mem_nil, or_false]
  omega
theorem in5 {e : Int} (h1 : -2 ≤ e) (h2 : e ≤ 2) : e ∈ [(-2 : Int), -1, 0, 1, 2] := by
  simp only [List.mem_cons, List.not_mem_nil, or_false]
  omega
/-- two steps are more than the drawn change of a height -/
theorem two_k {e f k : Int} (e1 : -4 ≤ e) (e2 : e ≤ 4) (f1 : -2 ≤ f) (f2 : f ≤ 2) (hk : 1 ≤ k) : psg (8 * k - e) (4 * k - f) = 1 ∧ psg (2 * k - e) (6 * k - f) = 1 ∧ psg (-4 * k - e) (8 * k - f) = 1 := by
  obtain ⟨h1, h2, h3⟩ := two_up e (in9 e1 e2) f (in5 f1 f2)
  rcases Int.lt_or_le 1 k with c | c
  · have g : 1 ≤ k - 1 := by omega
    refine ⟨?_, ?_, ?_⟩
    · exact pos2 h1 (pos_k (u := 8) (v := 4) (X := 8 * (k - 1)) (Y := 4 * (k - 1)) g (by decide) rfl rfl) (by omega) (by omega)
    · exact pos2 h2 (pos_k (u := 2) (v := 6) (X := 2 * (k - 1)) (Y := 6 * (k - 1)) g (by decide) rfl rfl) (by omega) (by omega)
    · exact pos2 h3 (pos_k (u := -4) (v := 8) (X := -4 * (k - 1)) (Y := 8 * (k - 1)) g (by decide) rfl rfl) (by omega) (by omega)
  · have : k = 1 := by omega
    subst this
    exact ⟨h1, h2, h3⟩
theorem bar_two {a b : Int → Int} {d : Int} {s : List Int} {j : Int} (F : Fl a b d s) (j0 : 0 ≤ j) (j4 : j ≤ 4) (n : Int) : ∃ t : Int, 0 ≤ t ∧ t ≤ 2 ∧ barX a b d s j (n + 2) = barX a b d s j n + t := by
  rw [show n + 2 = n + 1 + 1 by omega]
  rcases barX_next F j0 j4 n with ⟨e1, _⟩ | ⟨e1, _⟩ <;> rcases barX_next F j0 j4 (n + 1) with ⟨e2, _⟩ | ⟨e2, _⟩ <;> rw [e2, e1]
  · exact ⟨2, by decide, by decide, by omega⟩
  · exact ⟨1, by decide, by decide, rfl⟩
  · exact ⟨1, by decide, by decide, rfl⟩
  · exact ⟨0, by decide, by decide, by omega⟩
/-- the bar sought is near the bar whose height was taken -/
theorem ht_near {a b : Int → Int} {d : Int} {s : List Int} {j : Int} (F : Fl a b d s) (j0 : 0 ≤ j) (j4 : j ≤ 4) {n e f k n0 : Int} (e1 : -4 ≤ e) (e2 : e ≤ 4) (f1 : -2 ≤ f) (f2 : f ≤ 2) (hk : 1 ≤ k) (h : ∀ m, 0 < cHn a b d s j (hA (barX a b d s j n) (n - barX a b d s j n) * k + e) (hB (barX a b d s j n) (n - barX a b d s j n) * k + f) (4 * k) m ↔ n0 < m) : n - 2 ≤ n0 ∧ n0 ≤ n + 1 := by
  constructor
  · obtain ⟨t, t0, t2, ht⟩ := bar_two F j0 j4 (n - 2)
    rw [show n - 2 + 2 = n by omega] at ht
    have z := h (n - 2)
    have : ¬ 0 < cHn a b d s j (hA (barX a b d s j n) (n - barX a b d s j n) * k + e) (hB (barX a b d s j n) (n - barX a b d s j n) * k + f) (4 * k) (n - 2) := by
      unfold cHn cHt
      rw [ht]
      generalize barX a b d s j (n - 2) = x at *
      obtain ⟨h1, h2, h3⟩ := two_k (e := -e) (f := -f) (by omega) (by omega) (by omega) (by omega) hk
      have key : psg (-(hA x (n - 2 - x) * (4 * k) - 4 * (hA (x + t) (n - (x + t)) * k + e))) (-(hB x (n - 2 - x) * (4 * k) - 4 * (hB (x + t) (n - (x + t)) * k + f))) = 1 := by
        have ht : t = 0 ∨ t = 1 ∨ t = 2 := by omega
        unfold hA hB
        rcases ht with rfl | rfl | rfl
        · rw [← psg_scale (show (1 : Int) ≤ 4 by decide) (-4 * k - -e)] at h3
          refine Eq.trans ?_ h3
          clear h z h1 h2 h3 F
          congr 1 <;> grind
        · rw [← psg_scale (show (1 : Int) ≤ 4 by decide) (2 * k - -e)] at h2
          refine Eq.trans ?_ h2
          clear h z h1 h2 h3 F
          congr 1 <;> grind
        · rw [← psg_scale (show (1 : Int) ≤ 4 by decide) (8 * k - -e)] at h1
          refine Eq.trans ?_ h1
          clear h z h1 h2 h3 F
          congr 1 <;> grind
      rw [psg_neg] at key
      omega
    rcases Int.lt_or_le n0 (n - 2) with q | q
    · exact absurd (z.mpr q) this
    · exact q
  · obtain ⟨t, t0, t2, ht⟩ := bar_two F j0 j4 n
    have : 0 < cHn a b d s j (hA (barX a b d s j n) (n - barX a b d s j n) * k + e) (hB (barX a b d s j n) (n - barX a b d s j n) * k + f) (4 * k) (n + 2) := by
      unfold cHn cHt
      rw [ht]
      generalize barX a b d s j n = x at *
      obtain ⟨h1, h2, h3⟩ := two_k e1 e2 f1 f2 hk
      have ht : t = 0 ∨ t = 1 ∨ t = 2 := by omega
      refine psg_pos.mpr ?_
      unfold hA hB
      rcases ht with rfl | rfl | rfl
      · rw [← psg_scale (show (1 : Int) ≤ 4 by decide) (-4 * k - e)] at h3
        refine Eq.trans ?_ h3
        clear h h1 h2 h3 F
        congr 1 <;> grind
      · rw [← psg_scale (show (1 : Int) ≤ 4 by decide) (2 * k - e)] at h2
        refine Eq.trans ?_ h2
        clear h h1 h2 h3 F
        congr 1 <;> grind
      · rw [← psg_scale (show (1 : Int) ≤ 4 by decide) (8 * k - e)] at h1
        refine Eq.trans ?_ h1
        clear h h1 h2 h3 F
        congr 1 <;> grind
    have := (h (n + 2)).mp this
    omega
theorem len_bar_below_by : ∀ W ds Q R, sp_bar_below_by W ds Q R → ds.length = 3 := by
  rintro W ds Q R ⟨j, u, v, w, n0, a, b, d, s, rfl, _⟩
  rfl
theorem len_point_with : ∀ W ds Q R, sp_point_with W ds Q R → ds.length = 4 := by
  rintro W ds Q R ⟨j, i, a, b, rfl, _⟩
  rfl
theorem len_bar_below : ∀ W ds Q R, sp_bar_below W ds Q R → ds.length = 3 := by
  rintro W ds Q R ⟨j, u, v, w, n0, a, b, d, s, rfl, _⟩
  rfl
theorem len_crossing_of : ∀ W ds Q R, sp_crossing_of W ds Q R → ds.length = 2 := by
  rintro W ds Q R ⟨j, x, y, i, u, v, a, b, rfl, _⟩
  rfl
theorem len_is_point : ∀ W ds Q R, sp_is_point W ds Q R → ds.length = 1 := by
  rintro W ds Q R ⟨a, b, rfl, _⟩
  rfl
theorem len_bars_between : ∀ W ds Q R, sp_bars_between W ds Q R → ds.length = 5 := by
  rintro W ds Q R ⟨j, u, v, w, u', v', w', m, n0, n1, a, b, d, s, rfl, _⟩
  rfl
theorem len__law_told : ∀ W ds Q R, sp__law_told W ds Q R → ds.length = 5 := by
  rintro W ds Q R ⟨j, u, v, w, u', v', w', m, n0, n1, a, b, d, s, rfl, _⟩
  rfl
theorem len__law_is_crossing_right : ∀ W ds Q R, sp__law_is_crossing_right W ds Q R → ds.length = 1 := by
  rintro W ds Q R ⟨dk, l, _, rfl, _⟩
  rfl
/-- a golden number over 4, in any form -/
def P5 (A B u v w : Int) : Prop := Num 1100 u v w ∧ u * 4 = A * w ∧ v * 4 = B * w
theorem p5_red {A B : Int} (hA : Sz 1100 A) (hB : Sz 1100 B) : ∃ u v w, red A B 4 = tri u v w ∧ P5 A B u v w := by
  obtain ⟨u, v, w, e, n, e1, e2⟩ := red_parts hA hB (show Sz 1100 4 from Sz.mono (n := 3) (by decide) (by decide)) (by decide)
  exact ⟨u, v, w, e, n, e1, e2⟩
theorem P5.red {A B u v w : Int} (h : P5 A B u v w) : red u v w = ND.red A B 4 := red_cong h.1.2.2.2 (by decide) h.2.1 h.2.2
theorem P5.add {A B u v w A' B' u' v' w' : Int} (h : P5 A B u v w) (h' : P5 A' B' u' v' w') : ND.red (u * w' + u' * w) (v * w' + v' * w) (w * w') = ND.red (A + A') (B + B') 4 := by
  obtain ⟨n, e1, e2⟩ := h
  obtain ⟨n', e1', e2'⟩ := h'
  have p : 1 ≤ w * w' := Int.mul_pos n.2.2.2 n'.2.2.2
  exact red_cong p (by decide) (by grind) (by grind)
theorem P5.take {A B u v w A' B' u' v' w' : Int} (h : P5 A B u v w) (h' : P5 A' B' u' v' w') : ND.red ((v - u) * w' + -u' * w) (u * w' + -v' * w) (w * w') = ND.red (B - A - A') (A - B') 4 := by
  obtain ⟨n, e1, e2⟩ := h
  obtain ⟨n', e1', e2'⟩ := h'
  have p : 1 ≤ w * w' := Int.mul_pos n.2.2.2 n'.2.2.2
  exact red_cong p (by decide) (by grind) (by grind)
theorem P5.less {A B u v w : Int} (h : P5 A B u v w) : Num 1101 (v - u) u w := ⟨h.1.2.1.sub h.1.1, h.1.1.mono (by decide), h.1.2.2.1.mono (by decide), h.1.2.2.2⟩
theorem P5.tg {A B u v w : Int} (h : P5 A B u v w) (n : Num 1100 v (u + v) w) : P5 B (A + B) v (u + v) w := ⟨n, h.2.2, by have := h.2.1; have := h.2.2; grind⟩
theorem pt5 {a b : Int → Int} (sa : Szf 1090 a) (sb : Szf 1090 b) : ∃ u v w : Int → Int, (∀ r, 0 ≤ r → r ≤ 4 → red (a r) (b r) 4 = tri (u r) (v r) (w r) ∧ P5 (a r) (b r) (u r) (v r) (w r)) := by
  have h : ∀ r, ∃ x : Int × Int × Int, 0 ≤ r → r ≤ 4 → red (a r) (b r) 4 = tri x.1 x.2.1 x.2.2 ∧ P5 (a r) (b r) x.1 x.2.1 x.2.2 := fun r => by
    by_cases c : 0 ≤ r ∧ r ≤ 4
    · obtain ⟨u, v, w, e, p⟩ := p5_red ((sa r c.1 c.2).mono (by decide)) ((sb r c.1 c.2).mono (by decide))
      exact ⟨(u, v, w), fun _ _ => ⟨e, p⟩⟩
    · exact ⟨(0, 0, 0), fun h0 h4 => absurd ⟨h0, h4⟩ c⟩
  obtain ⟨f, hf⟩ := Classical.axiomOfChoice h
  exact ⟨fun r => (f r).1, fun r => (f r).2.1, fun r => (f r).2.2, hf⟩
theorem law_is_point : ∀ W ds Q R, sp_is_point W ds Q R → g_is_point W R (endsD Q) (startD 3 ds) := by
  rintro W ds Q R ⟨a, b, rfl, h, sa, sb, q⟩
  obtain ⟨u, v, w, hf⟩ := pt5 sa sb
  obtain ⟨e0, p0⟩ := hf 0 (by decide) (by decide)
  obtain ⟨e1, p1⟩ := hf 1 (by decide) (by decide)
  obtain ⟨e2, p2⟩ := hf 2 (by decide) (by decide)
  obtain ⟨e3, p3⟩ := hf 3 (by decide) (by decide)
  obtain ⟨e4, p4⟩ := hf 4 (by decide) (by decide)
  unfold keyD
  rw [e0, e1, e2, e3, e4]
  have key : ∀ j l r : Int, a j + a l = b r - a r → b j + b l = a r → (0 ≤ j ∧ j ≤ 4) → (0 ≤ l ∧ l ≤ 4) → (0 ≤ r ∧ r ≤ 4) → ∃ x y z, red (u j * w l + u l * w j) (v j * w l + v l * w j) (w j * w l) = tri x y z ∧ Num 1101 x y z ∧ x * w r - (v r - u r) * z = 0 ∧ y * w r - u r * z = 0 := by
    intro j l r f1 f2 hj hl hr
    obtain ⟨x, y, z, e, p⟩ := p5_red (A := b r - a r) (B := a r) (by rw [← f1]; exact ((sa j hj.1 hj.2).add (sa l hl.1 hl.2)).mono (by decide)) ((sa r hr.1 hr.2).mono (by decide))
    have ea := (hf j hj.1 hj.2).2.add (hf l hl.1 hl.2).2
    rw [f1, f2, e] at ea
    refine ⟨x, y, z, ea, p.1.up (by decide), ?_, ?_⟩
    · have := p.2.1
      have := (hf r hr.1 hr.2).2.2.1
      have := (hf r hr.1 hr.2).2.2.2
      have : 4 * (x * w r - (v r - u r) * z) = 0 := by
        clear hf ea e p f1 f2
        grind
      omega
    · have := p.2.2
      have := (hf r hr.1 hr.2).2.2.1
      have : 4 * (y * w r - u r * z) = 0 := by
        clear hf ea e p f1 f2
        grind
      omega
  unfold g_is_point
  ((conv => whnf); repeat decreasing_trivial_pre_omega)
  refine ⟨tyk1_tri _ _ _, ?_⟩
  rw [num_tri p0.1.2.2.2]
  ((conv => whnf); repeat decreasing_trivial_pre_omega)
  refine ⟨tyk1_tri _ _ _, ?_⟩
  rw [num_tri p1.1.2.2.2]
  ((conv => whnf); repeat decreasing_trivial_pre_omega)
  refine ⟨tyk1_tri _ _ _, ?_⟩
  rw [num_tri p2.1.2.2.2]
  ((conv => whnf); repeat decreasing_trivial_pre_omega)
  refine ⟨tyk1_tri _ _ _, ?_⟩
  rw [num_tri p3.1.2.2.2]
  ((conv => whnf); repeat decreasing_trivial_pre_omega)
  refine ⟨tyk1_tri _ _ _, ?_⟩
  rw [num_tri p4.1.2.2.2]
  ((conv => whnf); repeat decreasing_trivial_pre_omega)
  refine forL_in ?_
  refine forG_rng (S := fun _ σ => ∃ v1 v2, σ = [.d (.tup [tri (u 0) (v 0) (w 0), tri (u 1) (v 1) (w 1), tri (u 2) (v 2) (w 2), tri (u 3) (v 3) (w 3), tri (u 4) (v 4) (w 4)]), v1, v2]) 0 5 _ ⟨_, _, rfl⟩ ?_ ?_
  · rintro σ ⟨v1, v2, rfl⟩
    conv => whnf
    exact q
  · rintro i hi σ ⟨v1, v2, rfl⟩ E' hrt hnx hct
    have hn2 := fun v1 => hnx _ ⟨v1, v2, rfl⟩
    clear hnx hct
    have h5 : i = 0 ∨ i = 1 ∨ i = 2 ∨ i = 3 ∨ i = 4 := by omega
    obtain ⟨k2a, k2b⟩ := h.k0
    obtain ⟨k3a, k3b⟩ := h.k1
    obtain ⟨k4a, k4b⟩ := h.k2
    obtain ⟨k0a, k0b⟩ := h.k3
    obtain ⟨k1a, k1b⟩ := h.k4
    rcases h5 with rfl | rfl | rfl | rfl | rfl
    · obtain ⟨x, y, z, ez, nz, f1, f2⟩ := key 4 1 0 (by omega) (by omega) (by decide) (by decide) (by decide)
      ((conv => whnf); repeat decreasing_trivial_pre_omega)
      refine ⟨1100, 1100, _, _, _, _, _, _, rfl, p4.1, p1.1, by decide, p4.1.2.2.1.mono (by decide), p1.1.2.2.1.mono (by decide), ?_⟩
      rw [ez]
      ((conv => whnf); repeat decreasing_trivial_pre_omega)
      refine ⟨1101, _, _, _, _, _, _, rfl, nz, p0.less, by decide, ?_⟩
      rw [f1, f2]
      ((conv => whnf); repeat decreasing_trivial_pre_omega)
      exact hn2 _
    · obtain ⟨x, y, z, ez, nz, f1, f2⟩ := key 0 2 1 (by omega) (by omega) (by decide) (by decide) (by decide)
      ((conv => whnf); repeat decreasing_trivial_pre_omega)
      refine ⟨1100, 1100, _, _, _, _, _, _, rfl, p0.1, p2.1, by decide, p0.1.2.2.1.mono (by decide), p2.1.2.2.1.mono (by decide), ?_⟩
      rw [ez]
      ((conv => whnf); repeat decreasing_trivial_pre_omega)
      refine ⟨1101, _, _, _, _, _, _, rfl, nz, p1.less, by decide, ?_⟩
      rw [f1, f2]
      ((conv => whnf); repeat decreasing_trivial_pre_omega)
      exact hn2 _
    · obtain ⟨x, y, z, ez, nz, f1, f2⟩ := key 1 3 2 (by omega) (by omega) (by decide) (by decide) (by decide)
      ((conv => whnf); repeat decreasing_trivial_pre_omega)
      refine ⟨1100, 1100, _, _, _, _, _, _, rfl, p1.1, p3.1, by decide, p1.1.2.2.1.mono (by decide), p3.1.2.2.1.mono (by decide), ?_⟩
      rw [ez]
      ((conv => whnf); repeat decreasing_trivial_pre_omega)
      refine ⟨1101, _, _, _, _, _, _, rfl, nz, p2.less, by decide, ?_⟩
      rw [f1, f2]
      ((conv => whnf); repeat decreasing_trivial_pre_omega)
      exact hn2 _
    · obtain ⟨x, y, z, ez, nz, f1, f2⟩ := key 2 4 3 (by omega) (by omega) (by decide) (by decide) (by decide)
      ((conv => whnf); repeat decreasing_trivial_pre_omega)
      refine ⟨1100, 1100, _, _, _, _, _, _, rfl, p2.1, p4.1, by decide, p2.1.2.2.1.mono (by decide), p4.1.2.2.1.mono (by decide), ?_⟩
      rw [ez]
      ((conv => whnf); repeat decreasing_trivial_pre_omega)
      refine ⟨1101, _, _, _, _, _, _, rfl, nz, p3.less, by decide, ?_⟩
      rw [f1, f2]
      ((conv => whnf); repeat decreasing_trivial_pre_omega)
      exact hn2 _
    · obtain ⟨x, y, z, ez, nz, f1, f2⟩ := key 3 0 4 (by omega) (by omega) (by decide) (by decide) (by decide)
      ((conv => whnf); repeat decreasing_trivial_pre_omega)
      refine ⟨1100, 1100, _, _, _, _, _, _, rfl, p3.1, p0.1, by decide, p3.1.2.2.1.mono (by decide), p0.1.2.2.1.mono (by decide), ?_⟩
      rw [ez]
      ((conv => whnf); repeat decreasing_trivial_pre_omega)
      refine ⟨1101, _, _, _, _, _, _, rfl, nz, p4.less, by decide, ?_⟩
      rw [f1, f2]
      ((conv => whnf); repeat decreasing_trivial_pre_omega)
      exact hn2 _
/-- five things by their numbers -/
def l5 (x : Int → D) : List D := [x 0, x 1, x 2, x 3, x 4]
def ud (x : Int → D) (k : Int) (y : D) : Int → D := fun i => if i = k then y else x i
theorem l5_ix {x : Int → D} {k : Int} (k0 : 0 ≤ k) (k4 : k ≤ 4) {Q : D → Prop} (q : Q (x k)) : ixD (.lst (l5 x)) (.int k) Q := by
  rcases five_of k0 k4 with h | h | h | h | h <;> subst h <;> exact ⟨_, rfl, q⟩
theorem l5_set {x : Int → D} {k : Int} (k0 : 0 ≤ k) (k4 : k ≤ 4) (y : D) : (l5 x).set k.toNat y = l5 (ud x k y) := by
  rcases five_of k0 k4 with h | h | h | h | h <;> subst h <;> rfl
theorem ix5 {k : Int} (k0 : 0 ≤ k) (k4 : k ≤ 4) (x : Int → D) : ixN (l5 x).length k = some k.toNat := by
  rcases five_of k0 k4 with h | h | h | h | h <;> subst h <;> rfl
theorem ud_here (x : Int → D) (k : Int) (y : D) : ud x k y k = y := if_pos rfl
theorem ud_else {x : Int → D} {k i : Int} {y : D} (h : i ≠ k) : ud x k y i = x i := if_neg h
def G5 (a b : Int → Int) (x : Int → D) (r : Int) : Prop := ∃ u v w, x r = tri u v w ∧ P5 (a r) (b r) u v w
theorem G5.set {a b : Int → Int} {x : Int → D} {r k : Int} {y : D} (h : G5 a b x r) (g : ∃ u v w, y = tri u v w ∧ P5 (a k) (b k) u v w) : G5 a b (ud x k y) r := by
  by_cases c : r = k
  · subst c
    unfold G5
    rw [ud_here]
    exact g
  · unfold G5
    rw [ud_else c]
    exact h
theorem G5.new {a b : Int → Int} {x : Int → D} {k : Int} {y : D} (g : ∃ u v w, y = tri u v w ∧ P5 (a k) (b k) u v w) : G5 a b (ud x k y) k := by
  unfold G5
  rw [ud_here]
  exact g
theorem law_point_with : ∀ W ds Q R, sp_point_with W ds Q R → g_point_with W R (endsD Q) (startD 11 ds) := by
  rintro W ds Q R ⟨j, i, a, b, rfl, j0, j4, i0, i4, ji, h, sa, sb, q⟩
  obtain ⟨f, s, fs, f04, s04, ej, gap⟩ : ∃ f s, ordD j i = .tup [.int f, .int s] ∧ (0 ≤ f ∧ f ≤ 4) ∧ (0 ≤ s ∧ s ≤ 4) ∧ ((f = j ∧ s = i) ∨ (f = i ∧ s = j)) ∧ ((s - f) % 5 = 1 ∨ (s - f) % 5 = 2) := by
    unfold ordD
    by_cases c : (i - j) % 5 ≤ 2
    · exact ⟨j, i, if_pos c, ⟨j0, j4⟩, ⟨i0, i4⟩, .inl ⟨rfl, rfl⟩, by omega⟩
    · exact ⟨i, j, if_neg c, ⟨i0, i4⟩, ⟨j0, j4⟩, .inr ⟨rfl, rfl⟩, by omega⟩
  obtain ⟨u, v, w, ex, px⟩ := p5_red ((sa j j0 j4).mono (by decide)) ((sb j j0 j4).mono (by decide))
  obtain ⟨u', v', w', ey, py⟩ := p5_red ((sa i i0 i4).mono (by decide)) ((sb i i0 i4).mono (by decide))
  rw [ex, ey]
  have gj : G5 a b (ud (ud (fun _ => .non) j (tri u v w)) i (tri u' v' w')) j := by
    unfold G5
    rw [ud_else ji, ud_here]
    exact ⟨_, _, _, rfl, px⟩
  have gi : G5 a b (ud (ud (fun _ => .non) j (tri u v w)) i (tri u' v' w')) i := .new ⟨_, _, _, rfl, py⟩
  have gfs : G5 a b (ud (ud (fun _ => .non) j (tri u v w)) i (tri u' v' w')) f ∧ G5 a b (ud (ud (fun _ => .non) j (tri u v w)) i (tri u' v' w')) s := by
    rcases ej with ⟨rfl, rfl⟩ | ⟨rfl, rfl⟩
    · exact ⟨gj, gi⟩
    · exact ⟨gi, gj⟩
  unfold g_point_with
  refine seq_mid (P := fun σ => σ = [.d (.int j), .d (tri u v w), .d (.int i), .d (tri u' v' w'), .d (.int f), .d (.int s), .no, .no, .no, .no, .no]) ?rest0 ?head0
  case head0 =>
    intro E' hrt hnx
    conv => whnf
    refine ⟨j, i, rfl, j0, j4, i0, i4, ?_⟩
    rw [fs]
    conv => whnf
    exact ⟨_, rfl, rfl, hnx _ rfl⟩
  rintro σ rfl
  refine seq_mid (P := fun σ => σ = [.d (.int j), .d (tri u v w), .d (.int i), .d (tri u' v' w'), .d (.int f), .d (.int s), .ol (l5 fun _ => .non), .no, .no, .no, .no]) ?rest1 ?head1
  case head1 =>
    intro E' hrt hnx
    ((conv => whnf); repeat decreasing_trivial_pre_omega)
    exact hnx _ rfl
  rintro σ rfl
  refine seq_mid (P := fun σ => σ = [.d (.int j), .d (tri u v w), .d (.int i), .d (tri u' v' w'), .d (.int f), .d (.int s), .ol (l5 (ud (ud (fun _ => .non) j (tri u v w)) i (tri u' v' w'))), .no, .no, .no, .no]) ?rest2 ?head2
  case head2 =>
    intro E' hrt hnx
    conv => whnf
    refine ⟨(show 2 ≤ sizeLine by decide), ?_⟩
    conv => whnf
    refine ⟨_, rfl, rfl, ?_⟩
    conv => whnf
    refine ⟨_, rfl, ?_⟩
    conv => whnf
    refine ⟨j, _, rfl, ix5 j0 j4 _, ?_⟩
    rw [l5_set j0 j4]
    conv => whnf
    refine ⟨_, rfl, ?_⟩
    conv => whnf
    refine ⟨i, _, rfl, ix5 i0 i4 _, ?_⟩
    rw [l5_set i0 i4]
    exact hnx _ rfl
  rintro σ rfl
  generalize ud (ud (fun _ => D.non) j (tri u v w)) i (tri u' v' w') = x at *
  refine seq_mid (P := fun σ => ∃ s x v8, s = (f + 1) % 5 ∧ G5 a b x f ∧ G5 a b x s ∧ σ = [.d (.int j), .d (tri u v w), .d (.int i), .d (tri u' v' w'), .d (.int f), .d (.int s), .ol (l5 x), .no, v8, .no, .no]) ?rest3 ?head3
  case head3 =>
    intro E' hrt hnx
    conv => whnf
    refine ⟨by omega, ?_⟩
    conv => whnf
    refine ⟨rfl, rfl, ?_⟩
    rw [eqb_int]
    rcases gap with e | e
    · rw [decide_eq_false (by omega)]
      conv => whnf
      exact hnx _ ⟨s, x, _, by omega, gfs.1, gfs.2, rfl⟩
    · rw [decide_eq_true e]
      have m04 : 0 ≤ (f + 1) % 5 ∧ (f + 1) % 5 ≤ 4 := by omega
      obtain ⟨gp1, gp2, _⟩ := h.gap f04.1 f04.2
      have es : (f + 2) % 5 = s := by omega
      rw [es] at gp1 gp2
      have zA : Sz 1091 (a j + a i) := (sa j j0 j4).add (sa i i0 i4)
      have zB : Sz 1091 (b j + b i) := (sb j j0 j4).add (sb i i0 i4)
      obtain ⟨p, q', r, e4, n, k1, k2⟩ := red_parts zA zB (show Sz 1091 4 from Sz.mono (n := 3) (by decide) (by decide)) (by decide)
      have gm : P5 (a ((f + 1) % 5)) (b ((f + 1) % 5)) q' (p + q') r := by
        refine ⟨⟨n.2.1.mono (by decide), (n.1.add n.2.1).mono (by decide), n.2.2.1.mono (by decide), n.2.2.2⟩, ?_, ?_⟩
        · rw [k2, gp1]
          rcases ej with ⟨rfl, rfl⟩ | ⟨rfl, rfl⟩
          · rfl
          · rw [Int.add_comm (b f)]
        · rw [Int.add_mul, k1, k2, ← Int.add_mul, gp2]
          congr 1
          rcases ej with ⟨rfl, rfl⟩ | ⟨rfl, rfl⟩ <;> omega
      conv => whnf
      refine ⟨by omega, ?_⟩
      conv => whnf
      refine ⟨_, rfl, ?_⟩
      conv => whnf
      refine ⟨1100, 1100, _, _, _, _, _, _, rfl, px.1, py.1, by decide, px.1.2.2.1.mono (by decide), py.1.2.2.1.mono (by decide), ?_⟩
      rw [px.add py, e4]
      conv => whnf
      refine ⟨_, _, _, rfl, ?_⟩
      conv => whnf
      refine ⟨_, _, rfl, ix5 m04.1 m04.2 _, ?_⟩
      rw [l5_set m04.1 m04.2]
      conv => whnf
      have g2 : ∃ u v w, tri q' (p + q') r = tri u v w ∧ P5 (a ((f + 1) % 5)) (b ((f + 1) % 5)) u v w := ⟨_, _, _, rfl, gm⟩
      exact hnx _ ⟨_, _, _, rfl, gfs.1.set g2, .new g2, rfl⟩
  rintro σ ⟨s, x, v8, es, gf, gs, rfl⟩
  clear gj gi gfs gap ej s04 fs
  refine seq_mid (P := fun σ => ∃ x v4 v5 v7 v9, (∀ r, 0 ≤ r → r ≤ 4 → G5 a b x r) ∧ σ = [.d (.int j), .d (tri u v w), .d (.int i), .d (tri u' v' w'), v4, v5, .ol (l5 x), v7, v8, v9, .no]) ?rest4 ?head4
  case head4 =>
    intro E' hrt hnx
    conv => whnf
    refine ⟨3, rfl, by decide, by decide, ?_⟩
    refine forL_in ?_
    refine forG_rng (S := fun t σ => ∃ f s x v7 v9, (0 ≤ f ∧ f ≤ 4) ∧ s = (f + 1) % 5 ∧ (∀ k : Int, 0 ≤ k → k ≤ t + 1 → G5 a b x ((s - k) % 5)) ∧ σ = [.d (.int j), .d (tri u v w), .d (.int i), .d (tri u' v' w'), .d (.int f), .d (.int s), .ol (l5 x), v7, v8, v9, .no]) 0 3 _ ⟨f, s, x, _, _, f04, es, fun k k0 k1 => ?_, rfl⟩ ?_ ?_
    · have hk : k = 0 ∨ k = 1 := by omega
      rcases hk with rfl | rfl
      · rw [show (s - 0) % 5 = s by omega]
        exact gs
      · rw [show (s - 1) % 5 = f by omega]
        exact gf
    · rintro σ ⟨f, s, x, v7, v9, f04, es, g, rfl⟩
      refine hnx _ ⟨x, _, _, _, _, fun r r0 r4 => ?_, rfl⟩
      have := g ((s - r) % 5) (by omega) (by omega)
      rw [show (s - (s - r) % 5) % 5 = r by omega] at this
      exact this
    · rintro t ht σ ⟨f, s, x, v7, v9, f04, es, g, rfl⟩ E2 hrt2 hnx2 hct2
      have gs := g 0 (by decide) (by omega)
      have gf := g 1 (by decide) (by omega)
      rw [show (s - 0) % 5 = s by omega] at gs
      rw [show (s - 1) % 5 = f by omega] at gf
      have s04 : 0 ≤ s ∧ s ≤ 4 := by omega
      have b04 : 0 ≤ (s + 1) % 5 ∧ (s + 1) % 5 ≤ 4 := by omega
      obtain ⟨a1, a2, _⟩ := h.adj f04.1 f04.2
      rw [← es, show (f + 2) % 5 = (s + 1) % 5 by omega] at a1 a2
      obtain ⟨p1, p2, p3, e1, g1⟩ := gs
      obtain ⟨q1, q2, q3, e2, g2⟩ := gf
      obtain ⟨r1, r2, r3, e3, g3⟩ := p5_red ((sa _ b04.1 b04.2).mono (by decide)) ((sb _ b04.1 b04.2).mono (by decide))
      conv => whnf
      refine ⟨by omega, ?_⟩
      conv => whnf
      refine ⟨_, rfl, ?_⟩
      conv => whnf
      refine l5_ix s04.1 s04.2 ?_
      rw [e1]
      conv => whnf
      refine ⟨_, _, _, rfl, ?_⟩
      conv => whnf
      refine l5_ix f04.1 f04.2 ?_
      rw [e2]
      conv => whnf
      refine ⟨1101, 1100, _, _, _, _, _, _, rfl, g1.less, g2.1, by decide, g1.1.2.2.1.mono (by decide), g2.1.2.2.1.mono (by decide), ?_⟩
      rw [g1.take g2, ← a1, ← a2, e3]
      conv => whnf
      refine ⟨_, _, rfl, ix5 b04.1 b04.2 _, ?_⟩
      rw [l5_set b04.1 b04.2]
      conv => whnf
      have g4 : ∃ u v w, tri r1 r2 r3 = tri u v w ∧ P5 (a ((s + 1) % 5)) (b ((s + 1) % 5)) u v w := ⟨_, _, _, rfl, g3⟩
      refine ⟨rfl, hnx2 _ ⟨s, _, _, _, _, s04, rfl, fun k k0 k1 => ?_, rfl⟩⟩
      by_cases c : k = 0
      · subst c
        rw [show ((s + 1) % 5 - 0) % 5 = (s + 1) % 5 by omega]
        exact .new g4
      · have := g (k - 1) (by omega) (by omega)
        rw [show (s - (k - 1)) % 5 = ((s + 1) % 5 - k) % 5 by omega] at this
        exact this.set g4
  rintro σ ⟨x, v4, v5, v7, v9, g, rfl⟩
  obtain ⟨p0, q0, r0, e0, g0⟩ := g 0 (by decide) (by decide)
  obtain ⟨p1, q1, r1, e1, g1⟩ := g 1 (by decide) (by decide)
  obtain ⟨p2, q2, r2, e2, g2⟩ := g 2 (by decide) (by decide)
  obtain ⟨p3, q3, r3, e3, g3⟩ := g 3 (by decide) (by decide)
  obtain ⟨p4, q4, r4, e4, g4⟩ := g 4 (by decide) (by decide)
  have sz : ∀ {A B x y z : Int}, P5 A B x y z → Sz 8900 z ∧ z ≠ 0 := fun p => ⟨p.1.2.2.1.mono (by decide), by have := p.1.2.2.2; omega⟩
  unfold l5
  rw [e0, e1, e2, e3, e4]
  unfold keyD at q
  rw [← g0.red, ← g1.red, ← g2.red, ← g3.red, ← g4.red] at q
  ((conv => whnf); repeat decreasing_trivial_pre_omega)
  refine ⟨(sz g0).1, (sz g0).2, ?_⟩
  ((conv => whnf); repeat decreasing_trivial_pre_omega)
  refine ⟨(sz g1).1, (sz g1).2, ?_⟩
  ((conv => whnf); repeat decreasing_trivial_pre_omega)
  refine ⟨(sz g2).1, (sz g2).2, ?_⟩
  ((conv => whnf); repeat decreasing_trivial_pre_omega)
  refine ⟨(sz g3).1, (sz g3).2, ?_⟩
  ((conv => whnf); repeat decreasing_trivial_pre_omega)
  refine ⟨(sz g4).1, (sz g4).2, ?_⟩
  ((conv => whnf); repeat decreasing_trivial_pre_omega)
  exact q
theorem law_crossing_of : ∀ W ds Q R, sp_crossing_of W ds Q R → g_crossing_of W R (endsD Q) (startD 2 ds) := by
  rintro W ds Q R ⟨j, x, y, i, u, v, a, b, rfl, j0, j4, i0, i4, ji, h, sa, sb, zx, zy, zu, zv, e1, e2, e3, e4, q⟩
  unfold g_crossing_of
  conv => whnf
  refine ⟨j, x, y, rfl, j0, j4, ?_⟩
  conv => whnf
  refine ⟨i, u, v, rfl, i0, i4, ?_⟩
  ((conv => whnf); repeat decreasing_trivial_pre_omega)
  rw [eqb_int, decide_eq_false ji]
  ((conv => whnf); repeat decreasing_trivial_pre_omega)
  refine ⟨zx, zy, ?_⟩
  ((conv => whnf); repeat decreasing_trivial_pre_omega)
  refine ⟨zu, zv, ?_⟩
  rw [← e1, ← e2, ← e3, ← e4]
  conv => whnf
  exact ⟨j, i, a, b, rfl, j0, j4, i0, i4, ji, h, sa, sb, q⟩
theorem law_bar_below : ∀ W ds Q R, sp_bar_below W ds Q R → g_bar_below W R (endsD Q) (startD 3 ds) := by
  rintro W ds Q R ⟨j, u, v, w, n0, a, b, d, s, rfl, h, hs, j0, j4, hn, sw, sd, zn, hh, q⟩
  unfold g_bar_below
  conv => whnf
  refine ⟨j, rfl, j0, j4, ?_⟩
  conv => whnf
  refine ⟨_, rfl, tyk1_tri _ _ _, ?_⟩
  rw [num_tri hn.2.2.2]
  conv => whnf
  exact ⟨j, u, v, w, n0, a, b, d, s, rfl, h, hs, j0, j4, hn, sw, sd, zn, hh, q⟩
/-- the compared heights, by their sign -/
theorem cmp_ht {A B p q r u v w : Int} (e1 : p * 4 = A * r) (e2 : q * 4 = B * r) (r1 : 1 ≤ r) : psg (p * w - u * r) (q * w - v * r) = psg (A * w - 4 * u) (B * w - 4 * v) := by
  rw [← psg_scale (show (1 : Int) ≤ 4 by decide), ← psg_scale r1 (A * w - 4 * u)]
  congr 1
  · have : 4 * (p * w - u * r) = (p * 4) * w - 4 * u * r := by grind
    rw [this, e1]
    clear this e1 e2
    grind
  · have : 4 * (q * w - v * r) = (q * 4) * w - 4 * v * r := by grind
    rw [this, e2]
    clear this e1 e2
    grind
theorem barX_sz {a b : Int → Int} {d : Int} {s : List Int} {j n : Int} (h : KA 400 a b d) (j0 : 0 ≤ j) (j4 : j ≤ 4) (hn : Sz 400 n) : Sz 810 (barX a b d s j n) := by
  have zb := bfl_sz h j0 j4 hn
  have one : Sz 808 (1 : Int) := (by decide : Sz 1 (1 : Int)).mono (by decide)
  unfold barX
  split
  · exact (zb.add one).mono (by decide)
  · exact zb.mono (by decide)
/-- a bar's height beside a height, as the program compares them -/
theorem _root_.ND.Sz.betw {n : Nat} {lo x hi : Int} (h1 : Sz n lo) (h2 : Sz n hi) (l1 : lo ≤ x) (l2 : x ≤ hi) : Sz n x := by
  unfold Sz at *
  omega
theorem next_e {a b : Int → Int} {d : Int} {s : List Int} {j : Int} (h : KA 170 a b d) (hs : s ∈ sidesL (whL a b d)) (j0 : 0 ≤ j) (j4 : j ≤ 4) (n : Int) : (if 0 < phS a b d s j (barX a b d s j n) (n - barX a b d s j n) 0 0 then brD j (barX a b d s j n + 1) (n - barX a b d s j n) else brD j (barX a b d s j n) (n - barX a b d s j n + 1)) = bD a b d s j (n + 1) := by
  unfold bD
  rcases barX_next (h.fl hs) j0 j4 n with ⟨e, c⟩ | ⟨e, c⟩
  · rw [if_pos c, e, show n + 1 - (barX a b d s j n + 1) = n - barX a b d s j n by omega]
  · rw [if_neg c, e, show n + 1 - barX a b d s j n = n - barX a b d s j n + 1 by omega]
/-! golden numbers by what they are worth -/
def FrT (n : Nat) (u v w p q d : Int) : Prop := Num n u v w ∧ u * d = p * w ∧ v * d = q * w
theorem frT_red {n : Nat} {p q d : Int} (hp : Sz n p) (hq : Sz n q) (hd : Sz n d) (h : 1 ≤ d) : ∃ x y z, red p q d = tri x y z ∧ FrT n x y z p q d := by
  obtain ⟨x, y, z, e, n, e1, e2⟩ := red_parts hp hq hd h
  exact ⟨x, y, z, e, n, e1, e2⟩
theorem frT_self {n : Nat} {u v w : Int} (h : Num n u v w) : FrT n u v w u v w := ⟨h, rfl, rfl⟩
theorem adR {n m : Nat} {u v w u' v' w' p q d p' q' d' : Int} (h : FrT n u v w p q d) (h' : FrT m u' v' w' p' q' d') : ∃ x y z, red (u * w' + u' * w) (v * w' + v' * w) (w * w') = tri x y z ∧ FrT (n + m + 1) x y z (p * d' + p' * d) (q * d' + q' * d) (d * d') := by
  obtain ⟨n1, e1, e2⟩ := h
  obtain ⟨n2, f1, f2⟩ := h'
  obtain ⟨z1, z2, z3, z4⟩ := add_sz n1 n2
  obtain ⟨x, y, z, e, k1, k2, k3⟩ := red_parts z1 z2 z3 z4
  have w1 := n1.2.2.2
  have w2 := n2.2.2.2
  refine ⟨x, y, z, e, k1, ?_, ?_⟩
  · have : (w * w') * (x * (d * d')) = (w * w') * ((p * d' + p' * d) * z) := by
      have : (w * w') * (x * (d * d')) = (x * (w * w')) * (d * d') := by grind
      rw [this, k2]
      have : (u * w' + u' * w) * z * (d * d') = ((u * d) * w' * d' + (u' * d') * w * d) * z := by grind
      rw [this, e1, f1]
      clear this k2 k3 e1 e2 f1 f2
      grind
    exact Int.eq_of_mul_eq_mul_left (by have := Int.mul_pos w1 w2; omega) this
  · have : (w * w') * (y * (d * d')) = (w * w') * ((q * d' + q' * d) * z) := by
      have : (w * w') * (y * (d * d')) = (y * (w * w')) * (d * d') := by grind
      rw [this, k3]
      have : (v * w' + v' * w) * z * (d * d') = ((v * d) * w' * d' + (v' * d') * w * d) * z := by grind
      rw [this, e2, f2]
      clear this k2 k3 e1 e2 f1 f2
      grind
    exact Int.eq_of_mul_eq_mul_left (by have := Int.mul_pos w1 w2; omega) this
theorem frT_neg {n : Nat} {u v w p q d : Int} (h : FrT n u v w p q d) : FrT n (-u) (-v) w (-p) (-q) d :=
  ⟨h.1.neg, by rw [Int.neg_mul, h.2.1, Int.neg_mul], by rw [Int.neg_mul, h.2.2, Int.neg_mul]⟩
theorem tkR {n m : Nat} {u v w u' v' w' p q d p' q' d' : Int} (h : FrT n u v w p q d) (h' : FrT m u' v' w' p' q' d') : ∃ x y z, red (u * w' + -u' * w) (v * w' + -v' * w) (w * w') = tri x y z ∧ FrT (n + m + 1) x y z (p * d' + -p' * d) (q * d' + -q' * d) (d * d') := adR h (frT_neg h')
theorem muR {n m : Nat} {u v w u' v' w' p q d p' q' d' : Int} (h : FrT n u v w p q d) (h' : FrT m u' v' w' p' q' d') : ∃ x y z, red (u * u' + v * v') (u * v' + v * u' + v * v') (w * w') = tri x y z ∧ FrT (n + m + 2) x y z (p * p' + q * q') (p * q' + q * p' + q * q') (d * d') := by
  obtain ⟨n1, e1, e2⟩ := h
  obtain ⟨n2, f1, f2⟩ := h'
  obtain ⟨z1, z2, z3, z4⟩ := mul_sz n1 n2
  obtain ⟨x, y, z, e, k1, k2, k3⟩ := red_parts z1 z2 z3 z4
  have w1 := n1.2.2.2
  have w2 := n2.2.2.2
  refine ⟨x, y, z, e, k1, ?_, ?_⟩
  · have : (w * w') * (x * (d * d')) = (w * w') * ((p * p' + q * q') * z) := by
      have : (w * w') * (x * (d * d')) = (x * (w * w')) * (d * d') := by grind
      rw [this, k2]
      have : (u * u' + v * v') * z * (d * d') = ((u * d) * (u' * d') + (v * d) * (v' * d')) * z := by grind
      rw [this, e1, f1, e2, f2]
      clear this k2 k3 e1 e2 f1 f2
      grind
    exact Int.eq_of_mul_eq_mul_left (by have := Int.mul_pos w1 w2; omega) this
  · have : (w * w') * (y * (d * d')) = (w * w') * ((p * q' + q * p' + q * q') * z) := by
      have : (w * w') * (y * (d * d')) = (y * (w * w')) * (d * d') := by grind
      rw [this, k3]
      have : (u * v' + v * u' + v * v') * z * (d * d') = ((u * d) * (v' * d') + (v * d) * (u' * d') + (v * d) * (v' * d')) * z := by grind
      rw [this, e1, f1, e2, f2]
      clear this k2 k3 e1 e2 f1 f2
      grind
    exact Int.eq_of_mul_eq_mul_left (by have := Int.mul_pos w1 w2; omega) this
/-- by 5, as the program divides -/
theorem d5R {n : Nat} {u v w p q d : Int} (h : FrT n u v w p q d) : ∃ x y z, red ((u * (5 + 0) - v * 0) * 1) ((v * 5 - u * 0) * 1) ((5 * 5 + 5 * 0 - 0 * 0) * w) = tri x y z ∧ FrT (n + 6) x y z p q (5 * d) := by
  obtain ⟨n1, e1, e2⟩ := h
  have w1 := n1.2.2.2
  have z5 : Sz 3 (5 : Int) := by decide
  have z25 : Sz 6 (25 : Int) := by decide
  rw [show (u * (5 + 0) - v * 0) * 1 = 5 * u by omega, show (v * 5 - u * 0) * 1 = 5 * v by omega, show ((5 : Int) * 5 + 5 * 0 - 0 * 0) * w = 25 * w by omega]
  obtain ⟨x, y, z, e, k1, k2, k3⟩ := red_parts (n := n + 6) ((z5.mul n1.1).mono (by omega)) ((z5.mul n1.2.1).mono (by omega)) ((z25.mul n1.2.2.1).mono (by omega)) (show 1 ≤ 25 * w by omega)
  refine ⟨x, y, z, e, k1, ?_, ?_⟩
  · have : (5 * w) * (x * (5 * d)) = (5 * w) * (p * z) := by
      have : (5 * w) * (x * (5 * d)) = (x * (25 * w)) * d := by grind
      rw [this, k2]
      have : 5 * u * z * d = 5 * (u * d) * z := by grind
      rw [this, e1]
      clear this k2 k3 e1 e2
      grind
    exact Int.eq_of_mul_eq_mul_left (by omega) this
  · have : (5 * w) * (y * (5 * d)) = (5 * w) * (q * z) := by
      have : (5 * w) * (y * (5 * d)) = (y * (25 * w)) * d := by grind
      rw [this, k3]
      have : 5 * v * z * d = 5 * (v * d) * z := by grind
      rw [this, e2]
      clear this k2 k3 e1 e2
      grind
    exact Int.eq_of_mul_eq_mul_left (by omega) this
theorem flT {n : Nat} {u v w p q d : Int} (h : FrT n u v w p q d) (d1 : 1 ≤ d) : flr u v w = flr p q d := flr_cong h.1.2.2.2 d1 h.2.1 h.2.2
theorem ht_pt {a b : Int → Int} {d : Int} {s : List Int} {j : Int} (h : KA 170 a b d) (j0 : 0 ≤ j) (j4 : j ≤ 4) {n : Int} (hn : Sz 400 n) : Sz 1000 (barX a b d s j n) ∧ Sz 1000 (n - barX a b d s j n) ∧ ∃ p q r, red (hA (barX a b d s j n) (n - barX a b d s j n)) (hB (barX a b d s j n) (n - barX a b d s j n)) 4 = tri p q r ∧ Num 1006 p q r ∧ ∀ u v w, psg (p * w - u * r) (q * w - v * r) = cHn a b d s j u v w n := by
  have zx := barX_sz (s := s) (h.up (by decide : 170 ≤ 400)) j0 j4 hn
  have zy : Sz 1000 (n - barX a b d s j n) := ((hn.mono (by decide : 400 ≤ 810)).sub zx).mono (by decide)
  obtain ⟨zA, zB, _⟩ := h_sz (zx.mono (by decide : 810 ≤ 1000)) zy
  obtain ⟨p, q, r, e, np, e1, e2⟩ := red_parts zA zB (show Sz 1006 4 from Sz.mono (n := 3) (by decide) (by decide)) (by decide)
  exact ⟨zx.mono (by decide), zy, p, q, r, e, np, fun u v w => cmp_ht e1 e2 np.2.2.2⟩
theorem FrT.to {n m : Nat} {u v w p q d p' q' d' : Int} (h : FrT n u v w p q d) (l : n ≤ m) (d1 : 1 ≤ d) (e1 : p * d' = p' * d) (e2 : q * d' = q' * d) : FrT m u v w p' q' d' := by
  obtain ⟨n1, f1, f2⟩ := h
  refine ⟨n1.up l, ?_, ?_⟩
  · have : d * (u * d') = d * (p' * w) := by
      have : d * (u * d') = (u * d) * d' := by grind
      rw [this, f1]
      have : p * w * d' = (p * d') * w := by grind
      rw [this, e1]
      clear this e1 e2 f1 f2
      grind
    exact Int.eq_of_mul_eq_mul_left (by omega) this
  · have : d * (v * d') = d * (q' * w) := by
      have : d * (v * d') = (v * d) * d' := by grind
      rw [this, f2]
      have : q * w * d' = (q * d') * w := by grind
      rw [this, e2]
      clear this e1 e2 f1 f2
      grind
    exact Int.eq_of_mul_eq_mul_left (by omega) this
theorem law_bar_below_by : ∀ W ds Q R, sp_bar_below_by W ds Q R → g_bar_below_by W R (endsD Q) (startD 8 ds) := by
  rintro W ds Q R ⟨j, u, v, w, n0, a, b, d, s, rfl, h, hs, j0, j4, hw, sw, sd, zn, hh, q⟩
  have d1 := h.d1
  have w1 := hw.2.2.2
  have h5 : s.length = 5 := sidesL_five _ (whL_mem h.r) s hs
  have hf := h.fr j0 j4
  have za := h.sa j j0 j4
  have zb := h.sb j j0 j4
  obtain ⟨X, eX⟩ : ∃ X, X = 4 * u * d + w * (d - 4 * b j + 2 * a j) := ⟨_, rfl⟩
  obtain ⟨Y, eY⟩ : ∃ Y, Y = 4 * v * d + w * (3 * d - 4 * a j - 2 * b j) := ⟨_, rfl⟩
  have z4 : Sz 3 (4 : Int) := by decide
  have z3 : Sz 3 (3 : Int) := by decide
  have z2 : Sz 3 (2 : Int) := by decide
  have z10 : Sz 4 (10 : Int) := by decide
  have zX : Sz 274 X := by
    rw [eX]
    refine Sz.add (n := 273) ((z4.mul hw.1).mul sd) (Sz.mono (sw.mul (Sz.add (n := 175) (Sz.sub (n := 174) (sd.mono (by decide)) ((z4.mul zb).mono (by decide))) ((z2.mul za).mono (by decide)))) (by decide))
  have zY : Sz 274 Y := by
    rw [eY]
    refine Sz.add (n := 273) ((z4.mul hw.2.1).mul sd) (Sz.mono (sw.mul (Sz.sub (n := 175) (Sz.sub (n := 174) ((z3.mul sd).mono (by decide)) ((z4.mul za).mono (by decide))) ((z2.mul zb).mono (by decide)))) (by decide))
  have D1 : 1 ≤ 10 * (w * d) := by
    have := Int.mul_pos w1 d1
    omega
  obtain ⟨x0, ex0⟩ : ∃ x0, x0 = flr X Y (10 * (w * d)) := ⟨_, rfl⟩
  have zx0 : Sz 278 x0 := by
    rw [ex0]
    exact flr_bound zX zY D1
  obtain ⟨kp, kq, kr, ek, fk⟩ := frT_red za zb h.sd d1
  unfold g_bar_below_by
  refine seq_mid (P := fun σ => σ = [.d (flo (keyD a b d) s), .d (.int j), .d (tri u v w), .d (tri kp kq kr), .no, .no, .no, .no]) ?rest0 ?head0
  case head0 =>
    intro E' hrt hnx
    conv => whnf
    refine fld_k ?_
    conv => whnf
    refine ix_key (a := a) (b := b) (d := d) j0 j4 ?_
    rw [ek]
    exact hnx _ rfl
  rintro σ rfl
  refine seq_mid (P := fun σ => ∃ x y z, FrT 2000 x y z X Y (2 * (w * d)) ∧ σ = [.d (flo (keyD a b d) s), .d (.int j), .d (tri u v w), .d (tri kp kq kr), .d (tri x y z), .no, .no, .no]) ?rest1 ?head1
  case head1 =>
    intro E' hrt hnx
    obtain ⟨x1, y1, z1, e1, f1⟩ := adR (frT_self hw) (frT_self hw)
    obtain ⟨x2, y2, z2, e2, f2⟩ := adR f1 (frT_self (show Num 3 1 3 2 from ⟨by decide, by decide, by decide, by decide⟩))
    obtain ⟨x3, y3, z3, e3, f3⟩ := muR (frT_self (show Num 2 (-1) 2 1 from ⟨by decide, by decide, by decide, by decide⟩)) fk
    obtain ⟨x4, y4, z4, e4, f4⟩ := tkR f2 f3
    conv => whnf
    refine ⟨240, 240, _, _, _, _, _, _, rfl, hw, hw, by decide, hw.2.2.1.mono (by decide), hw.2.2.1.mono (by decide), ?_⟩
    rw [e1]
    conv => whnf
    refine ⟨(show 3 ≤ sizeLine by decide), ?_⟩
    conv => whnf
    refine ⟨_, 3, _, _, _, _, _, _, rfl, f1.1, ⟨by decide, by decide, by decide, by decide⟩, by decide, f1.1.2.2.1.mono (by decide), by decide, ?_⟩
    rw [e2]
    ((conv => whnf); repeat decreasing_trivial_pre_omega)
    refine ⟨2, _, _, _, _, _, _, _, rfl, ⟨by decide, by decide, by decide, by decide⟩, fk.1, by decide, by decide, fk.1.2.2.1.mono (by decide), ?_⟩
    rw [e3]
    conv => whnf
    refine ⟨_, _, _, _, _, _, _, _, rfl, f2.1, f3.1, by decide, f2.1.2.2.1.mono (by decide), f3.1.2.2.1.mono (by decide), ?_⟩
    rw [e4]
    refine hnx _ ⟨x4, y4, z4, f4.to (by decide) ?_ ?_ ?_, rfl⟩
    · have := Int.mul_pos (Int.mul_pos (Int.mul_pos w1 w1) (show (0 : Int) < 2 by decide)) (Int.mul_pos (show (0 : Int) < 1 by decide) d1)
      exact this
    · rw [eX]
      clear f1 f2 f3 f4 fk e1 e2 e3 e4 ek hh
      grind
    · rw [eY]
      clear f1 f2 f3 f4 fk e1 e2 e3 e4 ek hh
      grind
  rintro σ ⟨x1, y1, z1, f1, rfl⟩
  refine seq_mid (P := fun σ => σ = [.d (flo (keyD a b d) s), .d (.int j), .d (tri u v w), .d (tri kp kq kr), .d (tri x1 y1 z1), .d (.int x0), .no, .no]) ?rest2 ?head2
  case head2 =>
    intro E' hrt hnx
    obtain ⟨x2, y2, z2, e2, f2⟩ := d5R f1
    ((conv => whnf); repeat decreasing_trivial_pre_omega)
    refine ⟨2000, 3, _, _, _, _, _, _, rfl, f1.1, ⟨by decide, by decide, by decide, by decide⟩, by decide, by decide, f1.1.2.2.1.mono (by decide), by decide, ?_⟩
    rw [e2]
    conv => whnf
    refine ⟨_, _, _, rfl, f2.1.up (by decide), ?_⟩
    rw [flT f2 (by have := Int.mul_pos w1 d1; omega), show 5 * (2 * (w * d)) = 10 * (w * d) by omega, ← ex0]
    exact hnx _ rfl
  rintro σ rfl
  obtain ⟨N0, eN0⟩ : ∃ N0, N0 = x0 + flr (a j - x0 * d) (b j + x0 * d) d := ⟨_, rfl⟩
  have zN0 : Sz 320 N0 := by
    rw [eN0]
    have zxd : Sz 308 (x0 * d) := zx0.mul sd
    exact Sz.mono (Sz.add (n := 314) (zx0.mono (by decide)) ((flr_bound ((za.mono (by decide : 170 ≤ 308)).sub zxd) ((zb.mono (by decide : 170 ≤ 308)).add zxd) d1).mono (by decide))) (by decide)
  refine seq_mid (P := fun σ => σ = [.d (flo (keyD a b d) s), .d (.int j), .d (tri u v w), .d (tri kp kq kr), .d (tri x1 y1 z1), .d (.int x0), .d (bD a b d s j N0), .no]) ?rest3 ?head3
  case head3 =>
    intro E' hrt hnx
    obtain ⟨x3, y3, z3, e3, f3⟩ := adR (frT_self (show Num 280 (-x0) x0 1 from ⟨zx0.neg.mono (by decide), zx0.mono (by decide), by decide, by decide⟩)) fk
    ((conv => whnf); repeat decreasing_trivial_pre_omega)
    refine ⟨280, _, _, _, _, _, _, _, rfl, ⟨zx0.neg.mono (by decide), zx0.mono (by decide), by decide, by decide⟩, fk.1, by decide, by decide, fk.1.2.2.1.mono (by decide), ?_⟩
    rw [e3]
    conv => whnf
    refine ⟨_, _, _, rfl, f3.1.up (by decide), ?_⟩
    rw [flT (f3.to (m := 451) (p' := a j - x0 * d) (q' := b j + x0 * d) (d' := d) (by decide) (by omega) (by grind) (by grind)) d1]
    conv => whnf
    rw [← eN0]
    exact ⟨j, N0, a, b, d, s, rfl, h.up (by decide), h5, j0, j4, zN0.mono (by decide), fun _ => hnx _ rfl⟩
  rintro σ rfl
  refine seq_mid (P := fun σ => ∃ N, N ≤ n0 ∧ Sz 400 N ∧ σ = [.d (flo (keyD a b d) s), .d (.int j), .d (tri u v w), .d (tri kp kq kr), .d (tri x1 y1 z1), .d (.int x0), .d (bD a b d s j N), .no]) ?rest4 ?head4
  case head4 =>
    intro E' hrt hnx
    refine ⟨fun t σ => ∃ N, N ≤ N0 ∧ (n0 ≤ N ∨ N = N0) ∧ t = (N - n0).toNat ∧ σ = [.d (flo (keyD a b d) s), .d (.int j), .d (tri u v w), .d (tri kp kq kr), .d (tri x1 y1 z1), .d (.int x0), .d (bD a b d s j N), .no], ⟨_, N0, Int.le_refl _, .inr rfl, rfl, rfl⟩, ?_⟩
    rintro t σ ⟨N, l1, l2, rfl, rfl⟩
    have zN : Sz 400 N := by
      rcases l2 with l2 | rfl
      · exact Sz.betw (zn.mono (by decide)) (zN0.mono (by decide)) l2 l1
      · exact zN0.mono (by decide)
    obtain ⟨zx, zy, p, q', r, e, np, ce⟩ := ht_pt (s := s) h j0 j4 zN
    conv => whnf
    refine ⟨j, _, _, rfl, zx, zy, ?_⟩
    rw [e]
    conv => whnf
    refine ⟨1006, p, q', r, u, v, w, rfl, np, hw.up (by decide), by decide, ?_⟩
    rw [ce]
    conv => whnf
    have hN := hh N
    by_cases c : 0 < cHn a b d s j u v w N
    · rw [show decide (cHn a b d s j u v w N > 0) = true from decide_eq_true c]
      ((conv => whnf); repeat decreasing_trivial_pre_omega)
      have zN1 : Sz 400 (N - 1) := Sz.betw (zn.mono (by decide : 176 ≤ 400)) zN (by omega) (by omega)
      refine ⟨j, N - 1, a, b, d, s, ?_, h.up (by decide), h5, j0, j4, zN1, fun _ => ?_⟩
      · rw [show barX a b d s j N + (N - barX a b d s j N) - 1 = N - 1 by omega]
      · exact ⟨_, by omega, N - 1, by omega, .inl (by omega), rfl, rfl⟩
    · rw [show decide (cHn a b d s j u v w N > 0) = false from decide_eq_false c]
      exact hnx _ ⟨N, by omega, zN, rfl⟩
  rintro σ ⟨N, lN, zN, rfl⟩
  refine seq_mid (P := fun σ => σ = [.d (flo (keyD a b d) s), .d (.int j), .d (tri u v w), .d (tri kp kq kr), .d (tri x1 y1 z1), .d (.int x0), .d (bD a b d s j N), .d (bD a b d s j (N + 1))]) ?rest5 ?head5
  case head5 =>
    intro E' hrt hnx
    obtain ⟨zx, zy, _⟩ := ht_pt (s := s) h j0 j4 zN
    conv => whnf
    refine ⟨j, _, _, a, b, d, s, rfl, h.up (by decide), h5, j0, j4, zx, zy, ?_⟩
    rw [next_e h hs j0 j4 N]
    exact hnx _ rfl
  rintro σ rfl
  refine seq_mid (P := fun σ => ∃ v7, σ = [.d (flo (keyD a b d) s), .d (.int j), .d (tri u v w), .d (tri kp kq kr), .d (tri x1 y1 z1), .d (.int x0), .d (bD a b d s j n0), v7]) ?rest6 ?head6
  case head6 =>
    intro E' hrt hnx
    refine ⟨fun t σ => ∃ M, N ≤ M ∧ M ≤ n0 ∧ t = (n0 - M).toNat ∧ σ = [.d (flo (keyD a b d) s), .d (.int j), .d (tri u v w), .d (tri kp kq kr), .d (tri x1 y1 z1), .d (.int x0), .d (bD a b d s j M), .d (bD a b d s j (M + 1))], ⟨_, N, Int.le_refl _, lN, rfl, rfl⟩, ?_⟩
    rintro t σ ⟨M, l1, l2, rfl, rfl⟩
    have one : Sz 176 (1 : Int) := (by decide : Sz 1 (1 : Int)).mono (by decide)
    have zM : Sz 400 (M + 1) := Sz.betw zN ((zn.add one).mono (by decide : 177 ≤ 400)) (by omega) (by omega)
    obtain ⟨zx, zy, p, q', r, e, np, ce⟩ := ht_pt (s := s) h j0 j4 zM
    conv => whnf
    refine ⟨j, _, _, rfl, zx, zy, ?_⟩
    rw [e]
    conv => whnf
    refine ⟨1006, p, q', r, u, v, w, rfl, np, hw.up (by decide), by decide, ?_⟩
    rw [ce]
    conv => whnf
    have hN := hh (M + 1)
    by_cases c : cHn a b d s j u v w (M + 1) ≤ 0
    · rw [decide_eq_true c]
      conv => whnf
      refine ⟨j, _, _, a, b, d, s, rfl, h.up (by decide), h5, j0, j4, zx, zy, ?_⟩
      rw [next_e h hs j0 j4 (M + 1)]
      exact ⟨rfl, _, by omega, M + 1, by omega, by omega, rfl, rfl⟩
    · rw [decide_eq_false c]
      have : M = n0 := by omega
      subst this
      exact hnx _ ⟨_, rfl⟩
  rintro σ ⟨v7, rfl⟩
  conv => whnf
  exact q
theorem barsL_up (a b : Int → Int) (d : Int) (s : List Int) (j m : Int) (k : Nat) : barsL a b d s j m (k + 1) = barsL a b d s j m k ++ [bD a b d s j (m + (k : Int))] := by
  unfold barsL
  rw [List.range_succ, List.map_append]
  rfl
theorem barsL_len (a b : Int → Int) (d : Int) (s : List Int) (j m : Int) (k : Nat) : (barsL a b d s j m k).length = k := by
  unfold barsL
  rw [List.length_map, List.length_range]
theorem law_bars_between : ∀ W ds Q R, sp_bars_between W ds Q R → g_bars_between W R (endsD Q) (startD 8 ds) := by
  rintro W ds Q R ⟨j, u, v, w, u', v', w', m, n0, n1, a, b, d, s, rfl, B, q1, q2⟩
  obtain ⟨h, hs, j0, j4, hw, hw', z0, z1, e0, e1, sw, sw', sd, m0, few⟩ := B
  have F := h.fl hs
  have h5 : s.length = 5 := sidesL_five _ (whL_mem h.r) s hs
  have w1 := hw.2.2.2
  unfold g_bars_between
  refine seq_mid (P := fun σ => σ = [.d (flo (keyD a b d) s), .d (.int j), .d (tri u v w), .d (tri u' v' w'), .d (.int m), .no, .no, .no]) ?rest0 ?head0
  case head0 =>
    intro E' hrt hnx
    conv => whnf
    refine ⟨j, rfl, j0, j4, ?_⟩
    exact hnx _ rfl
  rintro σ rfl
  refine seq_mid (P := fun σ => ∃ v5, σ = [.d (flo (keyD a b d) s), .d (.int j), .d (tri u v w), .d (tri u' v' w'), .d (.int m), v5, .no, .no]) ?rest1 ?head1
  case head1 =>
    intro E' hrt hnx
    conv => whnf
    refine ⟨(show 2 ≤ sizeLine by decide), ?_⟩
    conv => whnf
    refine forL_in ?_
    conv => whnf
    refine ⟨_, rfl, tyk1_tri _ _ _, ?_⟩
    rw [num_tri hw.2.2.2]
    conv => whnf
    refine ⟨_, rfl, tyk1_tri _ _ _, ?_⟩
    rw [num_tri hw'.2.2.2]
    conv => whnf
    exact hnx _ ⟨_, rfl⟩
  rintro σ ⟨v5, rfl⟩
  refine seq_mid (P := fun σ => σ = [.d (flo (keyD a b d) s), .d (.int j), .d (tri u v w), .d (tri u' v' w'), .d (.int m), v5, .d (bD a b d s j n0), .ol []]) ?rest2 ?head2
  case head2 =>
    intro E' hrt hnx
    conv => whnf
    refine ⟨j, u, v, w, n0, a, b, d, s, rfl, h, hs, j0, j4, hw, sw, sd, z0, e0, ?_⟩
    conv => whnf
    refine ⟨Nat.zero_le _, ?_⟩
    exact hnx _ rfl
  rintro σ rfl
  obtain ⟨st, est⟩ : ∃ st, st = btS a b d s j u v w n0 := ⟨_, rfl⟩
  obtain ⟨N, eN⟩ : ∃ N, N = btN a b d s j u v w n0 n1 := ⟨_, rfl⟩
  have eN2 : N = (n1 + 1 - st).toNat := by rw [eN, est]; rfl
  have st01 : n0 ≤ st ∧ st ≤ n0 + 1 := by
    rw [est]
    unfold btS
    split <;> omega
  rw [← eN, ← est] at q1
  rw [← eN] at q2
  have one : ∀ {n : Nat}, Sz (n + 1) (1 : Int) := fun {n} => (by decide : Sz 1 (1 : Int)).mono (by omega)
  have hi0 : Sz 400 (n0 + 1) := (z0.add (one (n := 175))).mono (by decide)
  have hi1 : Sz 400 (n1 + 1) := (z1.add (one (n := 175))).mono (by decide)
  have lo0 : Sz 400 n0 := z0.mono (by decide)
  have zst : Sz 400 st := Sz.betw lo0 hi0 st01.1 st01.2
  refine seq_mid (P := fun σ => σ = [.d (flo (keyD a b d) s), .d (.int j), .d (tri u v w), .d (tri u' v' w'), .d (.int m), v5, .d (bD a b d s j st), .ol []]) ?rest3 ?head3
  case head3 =>
    intro E' hrt hnx
    obtain ⟨zx, zy, p, q, r, e, np, ce⟩ := ht_pt (s := s) h j0 j4 lo0
    conv => whnf
    refine ⟨j, _, _, rfl, zx, zy, ?_⟩
    rw [e]
    conv => whnf
    refine ⟨1006, p, q, r, u, v, w, rfl, np, hw.up (by decide), by decide, ?_⟩
    rw [ce]
    conv => whnf
    have e' : st = if cHn a b d s j u v w n0 < 0 then n0 + 1 else n0 := est
    by_cases c : cHn a b d s j u v w n0 < 0
    · rw [decide_eq_true c]
      rw [if_pos c] at e'
      subst e'
      conv => whnf
      refine ⟨j, _, _, a, b, d, s, rfl, h.up (by decide), h5, j0, j4, zx, zy, ?_⟩
      rw [next_e h hs j0 j4 n0]
      exact hnx _ rfl
    · rw [decide_eq_false c]
      rw [if_neg c] at e'
      subst e'
      conv => whnf
      exact hnx _ rfl
  rintro σ rfl
  refine seq_mid (P := fun σ => (N : Int) ≤ m ∧ ∃ v6, σ = [.d (flo (keyD a b d) s), .d (.int j), .d (tri u v w), .d (tri u' v' w'), .d (.int m), v5, v6, .ol (barsL a b d s j st N)]) ?rest4 ?head4
  case head4 =>
    intro E' hrt hnx
    refine ⟨fun t σ => ∃ k : Nat, k ≤ N ∧ (k : Int) ≤ m ∧ t = N - k ∧ σ = [.d (flo (keyD a b d) s), .d (.int j), .d (tri u v w), .d (tri u' v' w'), .d (.int m), v5, .d (bD a b d s j (st + (k : Int))), .ol (barsL a b d s j st k)], ⟨N, 0, by omega, by omega, by omega, by rw [show st + ((0 : Nat) : Int) = st by omega]; rfl⟩, ?_⟩
    rintro t σ ⟨k, kN, km, rfl, rfl⟩
    have zk : Sz 400 (st + k) := by
      rcases Nat.lt_or_ge 0 k with c | c
      · exact Sz.betw zst hi1 (by omega) (by omega)
      · rw [show st + (k : Int) = st by omega]
        exact zst
    have bl := barsL_len a b d s j st k
    obtain ⟨zx, zy, p, q, r, e, np, ce⟩ := ht_pt (s := s) h j0 j4 zk
    have up := barsL_up a b d s j st k
    conv => whnf
    refine ⟨j, _, _, rfl, zx, zy, ?_⟩
    rw [e]
    conv => whnf
    refine ⟨1006, p, q, r, u', v', w', rfl, np, hw'.up (by decide), by decide, ?_⟩
    rw [ce]
    conv => whnf
    by_cases c : cHn a b d s j u' v' w' (st + k) ≤ 0
    · have kn : k < N := by
        have := e1 (st + k)
        omega
      rw [decide_eq_true c]
      conv => whnf
      refine ⟨rfl, rfl, ?_⟩
      rw [eqb_int, bl]
      by_cases cm : (k : Int) = m
      · rw [decide_eq_true cm]
        conv => whnf
        exact q2 (by omega)
      · rw [decide_eq_false cm]
        conv => whnf
        refine ⟨_, rfl, ?_⟩
        conv => whnf
        refine ⟨by rw [bl]; exact Nat.lt_of_lt_of_le (show k < 1000 by omega) (by decide), ?_⟩
        conv => whnf
        refine ⟨j, _, _, a, b, d, s, rfl, h.up (by decide), h5, j0, j4, zx, zy, ?_⟩
        rw [next_e h hs j0 j4 (st + k)]
        refine ⟨N - (k + 1), by omega, k + 1, by omega, by omega, rfl, ?_⟩
        rw [up, show st + ((k + 1 : Nat) : Int) = st + k + 1 by omega]
        rfl
    · have kn : k = N := by
        have := e1 (st + k)
        omega
      rw [decide_eq_false c]
      subst kn
      exact hnx _ ⟨by omega, _, rfl⟩
  rintro σ ⟨hm, v6, rfl⟩
  conv => whnf
  exact q1 hm
theorem law__law_told : ∀ W ds Q R, sp__law_told W ds Q R → g__law_told W R (endsD Q) (startD 6 ds) := by
  rintro W ds Q R ⟨j, u, v, w, u', v', w', m, n0, n1, a, b, d, s, rfl, B, q⟩
  unfold g__law_told
  conv => whnf
  refine ⟨rfl, rfl, ?_⟩
  rw [eqb_int]
  by_cases c : m = 400
  · rw [decide_eq_true c]
    subst c
    conv => whnf
    refine ⟨j, u, v, w, u', v', w', 400, n0, n1, a, b, d, s, rfl, B, fun l => ?_, fun l => ?_⟩
    · rw [if_pos l] at q
      exact q
    · rw [if_neg (by omega)] at q
      simp [hdG, gErF, clauseStart]
      exact q
  · rw [decide_eq_false c]
    conv => whnf
    refine ⟨j, u, v, w, u', v', w', m, n0, n1, a, b, d, s, rfl, B, fun l => ?_, fun l => ?_⟩
    · rw [if_pos l] at q
      exact q
    · rw [if_neg (by omega)] at q
      simp [hdG, gErF, clauseStart]
      exact q
theorem hr_two {a b : Int → Int} (h : HR a b) {f : Int} (f0 : 0 ≤ f) (f4 : f ≤ 4) : a ((f + 2) % 5) = b ((f + 1) % 5) - a ((f + 1) % 5) - a f ∧ b ((f + 2) % 5) = a ((f + 1) % 5) - b f := ⟨(h.adj f0 f4).1, (h.adj f0 f4).2.1⟩
/-- heights given at any two directions -/
theorem hr_ex {n : Nat} {f s A B C E : Int} (f0 : 0 ≤ f) (f4 : f ≤ 4) (s0 : 0 ≤ s) (s4 : s ≤ 4) (g : (s - f) % 5 = 1 ∨ (s - f) % 5 = 2) (zA : Sz n A) (zB : Sz n B) (zC : Sz n C) (zE : Sz n E) : ∃ a b, HR a b ∧ a f = A ∧ b f = B ∧ a s = C ∧ b s = E ∧ Szf (n + 6) a ∧ Szf (n + 6) b := by
  rcases g with g | g
  · obtain ⟨a, b, h, e1, e2, e3, e4, z1, z2⟩ := heights_ex f0 f4 zA zB zC zE
    rw [show (f + 1) % 5 = s by omega] at e3 e4
    exact ⟨a, b, h, e1, e2, e3, e4, fun r r0 r4 => (z1 r r0 r4).mono (by omega), fun r r0 r4 => (z2 r r0 r4).mono (by omega)⟩
  · obtain ⟨a, b, h, e1, e2, e3, e4, z1, z2⟩ := heights_ex (n := n + 2) (u := B + E) (v := A + B + (C + E)) f0 f4 (zA.mono (by omega)) (zB.mono (by omega)) ((zB.add zE).mono (by omega)) ((zA.add zB).add (zC.add zE))
    obtain ⟨k1, k2⟩ := hr_two h f0 f4
    rw [e1, e3, e4] at k1
    rw [e2, e3] at k2
    rw [show (f + 2) % 5 = s by omega] at k1 k2
    exact ⟨a, b, h, e1, e2, by omega, by omega, fun r r0 r4 => (z1 r r0 r4).mono (by omega), fun r r0 r4 => (z2 r r0 r4).mono (by omega)⟩
theorem law__law_is_crossing_right : ∀ W ds Q R, sp__law_is_crossing_right W ds Q R → g__law_is_crossing_right W R (endsD Q) (startD 13 ds) := by
  rintro W ds Q R ⟨dk, l, rfl, rfl, q⟩
  unfold g__law_is_crossing_right
  refine seq_mid (P := fun σ => ∃ j x y, (0 ≤ j ∧ j ≤ 4) ∧ Sz 120 x ∧ Sz 120 y ∧ σ = [.d (dkD dk), .d (brD j x y), .no, .no, .no, .no, .no, .no, .no, .no, .no, .no, .no]) ?rest0 ?head0
  case head0 =>
    intro E' hrt hnx
    conv => whnf
    refine ⟨_, _, _, rfl, rfl, by first | decide | omega, by first | decide | omega, fun j j0 j1 => ?_⟩
    conv => whnf
    refine ⟨dk, l, rfl, rfl, fun x zx => ?_⟩
    conv => whnf
    refine ⟨dk, l, rfl, rfl, fun y zy => ?_⟩
    conv => whnf
    refine ⟨(show 3 ≤ sizeLine by decide), ?_⟩
    exact hnx _ ⟨j, x, y, by omega, zx, zy, rfl⟩
  rintro σ ⟨j, x, y, j04, zx, zy, rfl⟩
  refine seq_mid (P := fun σ => ∃ i u v, (0 ≤ i ∧ i ≤ 4) ∧ j ≠ i ∧ Sz 120 u ∧ Sz 120 v ∧ σ = [.d (dkD dk), .d (brD j x y), .d (brD i u v), .no, .no, .no, .no, .no, .no, .no, .no, .no, .no]) ?rest1 ?head1
  case head1 =>
    intro E' hrt hnx
    conv => whnf
    refine ⟨_, rfl, ?_⟩
    conv => whnf
    refine ⟨_, _, _, rfl, rfl, by first | decide | omega, by first | decide | omega, fun t t0 t1 => ?_⟩
    conv => whnf
    refine ⟨by omega, ?_⟩
    conv => whnf
    refine ⟨dk, l, rfl, rfl, fun u zu => ?_⟩
    conv => whnf
    refine ⟨dk, l, rfl, rfl, fun v zv => ?_⟩
    conv => whnf
    refine ⟨(show 3 ≤ sizeLine by decide), ?_⟩
    exact hnx _ ⟨(j + 1 + t) % 5, u, v, by omega, by omega, zu, zv, rfl⟩
  rintro σ ⟨i, u, v, i04, ji, zu, zv, rfl⟩
  refine seq_mid (P := fun σ => ∃ v3 v11 v12, σ = [.d (dkD dk), .d (brD j x y), .d (brD i u v), v3, .no, .no, .no, .no, .no, .no, .no, v11, v12]) ?rest2 ?head2
  case head2 =>
    intro E' hrt hnx
    conv => whnf
    refine ⟨(show 2 ≤ sizeLine by decide), ?_⟩
    conv => whnf
    refine forL_in ?_
    refine forG_inv (fun ds σ => (∀ z ∈ ds, ∃ j x y, (0 ≤ j ∧ j ≤ 4) ∧ Sz 120 x ∧ Sz 120 y ∧ z = brD j x y) ∧ ∃ v3 v11 v12, σ = [.d (dkD dk), .d (brD j x y), .d (brD i u v), v3, .no, .no, .no, .no, .no, .no, .no, v11, v12]) ?_ ?_ _ _ ⟨?_, _, _, _, rfl⟩
    · rintro σ ⟨_, v3, v11, v12, rfl⟩
      exact hnx _ ⟨_, _, _, rfl⟩
    · rintro z zs σ ⟨hz, v3, v11, v12, rfl⟩ E2 hrt2 hbk2 hnx2 hct2
      obtain ⟨k, p, q', k04, zp, zq, rfl⟩ := hz z List.mem_cons_self
      obtain ⟨zA, zB, _⟩ := h_sz (zp.mono (by decide : 120 ≤ 1000)) (zq.mono (by decide : 120 ≤ 1000))
      have zAB : Sz 130 (hA p q') ∧ Sz 130 (hB p q') := by
        have z4 : Sz 3 (4 : Int) := by decide
        have z2 : Sz 3 (2 : Int) := by decide
        exact ⟨Sz.mono (((z4.mul zp).sub (z2.mul zq)).sub (Sz.mono (show Sz 1 1 by decide) (by decide))) (by decide), Sz.mono (((z2.mul zp).add (z4.mul zq)).sub (Sz.mono (show Sz 3 3 by decide) (by decide))) (by decide)⟩
      have hn2 := fun v3 v11 v12 => hnx2 _ ⟨fun z m => hz z (List.mem_cons_of_mem _ m), v3, v11, v12, rfl⟩
      have rk : Rok (.tup [red (hA p q') (hB p q') 4, red (hA p q') (hB p q') 4]) := by
        have : Pok 1 13000 14000 (red (hA p q') (hB p q') 4) := red_pok (zAB.1.mono (by decide)) (zAB.2.mono (by decide)) (Sz.mono (show Sz 3 4 by decide) (by decide)) (by decide)
        exact rok_tup (in2 this this) (show 2 ≤ 1000 by decide)
      conv => whnf
      refine ⟨k, p, q', rfl, zp.mono (by decide), zq.mono (by decide), ?_⟩
      conv => whnf
      refine ⟨_, rfl, rfl, ?_⟩
      conv => whnf
      refine ⟨k, p, q', rfl, k04.1, k04.2, zp.mono (by decide), zq.mono (by decide), ?_⟩
      conv => whnf
      refine ⟨k, p, q', rfl, k04.1, k04.2, zp.mono (by decide), zq.mono (by decide), ?_⟩
      conv => whnf
      refine ⟨(show 2 ≤ sizeLine by decide), ?_⟩
      conv => whnf
      refine ⟨_, _, 4, rfl, zAB.1.mono (by decide), zAB.2.mono (by decide), by decide, by decide, ?_⟩
      conv => whnf
      refine ⟨_, _, 4, rfl, zAB.1.mono (by decide), zAB.2.mono (by decide), by decide, by decide, ?_⟩
      conv => whnf
      refine ⟨(show 2 ≤ sizeLine by decide), ?_⟩
      conv => whnf
      refine ⟨_, rfl, rk, ?_⟩
      conv => whnf
      exact hn2 _ _ _
    · intro z hz
      simp only [List.mem_cons, List.not_mem_nil, or_false] at hz
      rcases hz with rfl | rfl
      · exact ⟨j, x, y, j04, zx, zy, rfl⟩
      · exact ⟨i, u, v, i04, zu, zv, rfl⟩
  rintro σ ⟨v3, v11, v12, rfl⟩
  refine seq_mid (P := fun σ => ∃ f s p1 p2 q1 q2, ((f = j ∧ s = i ∧ p1 = x ∧ p2 = y ∧ q1 = u ∧ q2 = v) ∨ (f = i ∧ s = j ∧ p1 = u ∧ p2 = v ∧ q1 = x ∧ q2 = y)) ∧ ((s - f) % 5 = 1 ∨ (s - f) % 5 = 2) ∧ σ = [.d (dkD dk), .d (brD j x y), .d (brD i u v), v3, .d (brD f p1 p2), .d (brD s q1 q2), .no, .no, .no, .no, .no, v11, v12]) ?rest3 ?head3
  case head3 =>
    intro E' hrt hnx
    conv => whnf
    refine ⟨_, rfl, ?_⟩
    conv => whnf
    refine ⟨_, rfl, ?_⟩
    conv => whnf
    refine ⟨by omega, ?_⟩
    conv => whnf
    by_cases c : (i - j) % 5 < 3
    · rw [decide_eq_true c]
      conv => whnf
      refine ⟨(show 2 ≤ sizeLine by decide), ?_⟩
      conv => whnf
      exact ⟨_, rfl, rfl, hnx _ ⟨j, i, x, y, u, v, .inl ⟨rfl, rfl, rfl, rfl, rfl, rfl⟩, by omega, rfl⟩⟩
    · rw [decide_eq_false c]
      conv => whnf
      refine ⟨(show 2 ≤ sizeLine by decide), ?_⟩
      conv => whnf
      exact ⟨_, rfl, rfl, hnx _ ⟨i, j, u, v, x, y, .inr ⟨rfl, rfl, rfl, rfl, rfl, rfl⟩, by omega, rfl⟩⟩
  rintro σ ⟨f, s, p1, p2, q1, q2, ej, gap, rfl⟩
  have f04 : 0 ≤ f ∧ f ≤ 4 := by omega
  have s04 : 0 ≤ s ∧ s ≤ 4 := by omega
  have zs : Sz 120 p1 ∧ Sz 120 p2 ∧ Sz 120 q1 ∧ Sz 120 q2 := by
    rcases ej with ⟨_, _, rfl, rfl, rfl, rfl⟩ | ⟨_, _, rfl, rfl, rfl, rfl⟩
    · exact ⟨zx, zy, zu, zv⟩
    · exact ⟨zu, zv, zx, zy⟩
  have zAB : ∀ p q', Sz 120 p → Sz 120 q' → Sz 130 (hA p q') ∧ Sz 130 (hB p q') := fun p q' zp zq => by
    have z4 : Sz 3 (4 : Int) := by decide
    have z2 : Sz 3 (2 : Int) := by decide
    exact ⟨Sz.mono (((z4.mul zp).sub (z2.mul zq)).sub (Sz.mono (show Sz 1 1 by decide) (by decide))) (by decide), Sz.mono (((z2.mul zp).add (z4.mul zq)).sub (Sz.mono (show Sz 3 3 by decide) (by decide))) (by decide)⟩
  obtain ⟨zA1, zB1⟩ := zAB p1 p2 zs.1 zs.2.1
  obtain ⟨zA2, zB2⟩ := zAB q1 q2 zs.2.2.1 zs.2.2.2
  obtain ⟨a, b, h, e1, e2, e3, e4, sa, sb⟩ := hr_ex f04.1 f04.2 s04.1 s04.2 gap zA1 zB1 zA2 zB2
  have ejx : a j = hA x y ∧ b j = hB x y ∧ a i = hA u v ∧ b i = hB u v := by
    rcases ej with ⟨rfl, rfl, rfl, rfl, rfl, rfl⟩ | ⟨rfl, rfl, rfl, rfl, rfl, rfl⟩
    · exact ⟨e1, e2, e3, e4⟩
    · exact ⟨e3, e4, e1, e2⟩
  refine seq_mid (P := fun σ => σ = [.d (dkD dk), .d (brD j x y), .d (brD i u v), v3, .d (brD f p1 p2), .d (brD s q1 q2), .d (pr (a f) (b f)), .d (pr (a s) (b s)), .no, .no, .no, v11, v12]) ?rest4 ?head4
  case head4 =>
    intro E' hrt hnx
    conv => whnf
    refine ⟨f, p1, p2, rfl, zs.1.mono (by decide), zs.2.1.mono (by decide), ?_⟩
    conv => whnf
    refine ⟨s, q1, q2, rfl, zs.2.2.1.mono (by decide), zs.2.2.2.mono (by decide), ?_⟩
    rw [← e1, ← e2, ← e3, ← e4]
    exact ⟨rfl, hnx _ rfl⟩
  rintro σ rfl
  refine seq_mid (P := fun σ => σ = [.d (dkD dk), .d (brD j x y), .d (brD i u v), v3, .d (brD f p1 p2), .d (brD s q1 q2), .d (pr (a f) (b f)), .d (pr (a ((f + 1) % 5)) (b ((f + 1) % 5))), .no, .no, .no, v11, v12]) ?rest5 ?head5
  case head5 =>
    intro E' hrt hnx
    conv => whnf
    refine ⟨_, rfl, ?_⟩
    conv => whnf
    refine ⟨_, rfl, ?_⟩
    conv => whnf
    refine ⟨by omega, ?_⟩
    conv => whnf
    refine ⟨rfl, rfl, ?_⟩
    rw [eqb_int]
    rcases gap with g | g
    · rw [decide_eq_false (by omega)]
      rw [show (f + 1) % 5 = s by omega] at hnx
      exact hnx _ rfl
    · rw [decide_eq_true g]
      obtain ⟨gp1, gp2, _⟩ := h.gap f04.1 f04.2
      rw [show (f + 2) % 5 = s by omega] at gp1 gp2
      rw [gp1, gp2, ← Int.add_assoc] at hnx
      iterate 6 ((conv => whnf); refine ⟨_, rfl, ?_⟩)
      conv => whnf
      refine ⟨(show 2 ≤ sizeLine by decide), ?_⟩
      exact hnx _ rfl
  rintro σ rfl
  refine seq_mid (P := fun σ => σ = [.d (dkD dk), .d (brD j x y), .d (brD i u v), v3, .d (brD f p1 p2), .d (brD s q1 q2), .d (pr (a f) (b f)), .d (pr (a ((f + 1) % 5)) (b ((f + 1) % 5))), .ol (l5 fun _ => tri 0 0 1), .no, .no, v11, v12]) ?rest6 ?head6
  case head6 =>
    intro E' hrt hnx
    ((conv => whnf); repeat decreasing_trivial_pre_omega)
    exact hnx _ rfl
  rintro σ rfl
  refine seq_mid (P := fun σ => ∃ x', (∀ r, 0 ≤ r → r ≤ 4 → x' r = red (a r) (b r) 4) ∧ ∃ v6 v7 v9, σ = [.d (dkD dk), .d (brD j x y), .d (brD i u v), v3, .d (brD f p1 p2), .d (brD s q1 q2), v6, v7, .ol (l5 x'), v9, .no, v11, v12]) ?rest7 ?head7
  case head7 =>
    intro E' hrt hnx
    conv => whnf
    refine ⟨5, rfl, by decide, by decide, ?_⟩
    refine forL_in ?_
    refine forG_rng (S := fun t σ => ∃ x', (∀ k : Int, 0 ≤ k → k < t → x' ((f + k) % 5) = red (a ((f + k) % 5)) (b ((f + k) % 5)) 4) ∧ ∃ v9, σ = [.d (dkD dk), .d (brD j x y), .d (brD i u v), v3, .d (brD f p1 p2), .d (brD s q1 q2), .d (pr (a ((f + t) % 5)) (b ((f + t) % 5))), .d (pr (a ((f + t + 1) % 5)) (b ((f + t + 1) % 5))), .ol (l5 x'), v9, .no, v11, v12]) 0 5 _ ⟨fun _ => tri 0 0 1, fun k k0 k1 => by omega, .no, ?_⟩ ?_ ?_
    · rw [show (f + ((0 : Nat) : Int)) % 5 = f by omega, show (f + ((0 : Nat) : Int) + 1) % 5 = (f + 1) % 5 by omega]
    · rintro σ ⟨x', hx', v9, rfl⟩
      refine hnx _ ⟨x', fun r r0 r4 => ?_, _, _, _, rfl⟩
      have := hx' ((r - f) % 5) (by omega) (by omega)
      rw [show (f + (r - f) % 5) % 5 = r by omega] at this
      exact this
    · rintro t ht σ ⟨x', hx', v9, rfl⟩ E2 hrt2 hnx2 hct2
      obtain ⟨r, er⟩ : ∃ r, r = (f + (t : Int)) % 5 := ⟨_, rfl⟩
      have r04 : 0 ≤ r ∧ r ≤ 4 := by omega
      have r14 : 0 ≤ (r + 1) % 5 ∧ (r + 1) % 5 ≤ 4 := by omega
      obtain ⟨w1, w2⟩ := hr_two h r04.1 r04.2
      have n1 : (f + ((t + 1 : Nat) : Int)) % 5 = (r + 1) % 5 := by omega
      have n2 : (f + ((t + 1 : Nat) : Int) + 1) % 5 = (r + 2) % 5 := by omega
      have n3 : (f + (t : Int) + 1) % 5 = (r + 1) % 5 := by omega
      have hn2 := fun x' (g : ∀ k : Int, 0 ≤ k → k < (t + 1 : Nat) → x' ((f + k) % 5) = red (a ((f + k) % 5)) (b ((f + k) % 5)) 4) v9 => hnx2 _ ⟨x', g, v9, rfl⟩
      rw [n1, n2, w1, w2] at hn2
      rw [n3, ← er]
      conv => whnf
      refine ⟨_, rfl, ?_⟩
      conv => whnf
      refine ⟨_, rfl, ?_⟩
      conv => whnf
      refine ⟨_, rfl, ?_⟩
      conv => whnf
      refine ⟨_, _, 4, rfl, (sa r r04.1 r04.2).mono (by decide), (sb r r04.1 r04.2).mono (by decide), by decide, by decide, ?_⟩
      conv => whnf
      refine ⟨_, rfl, ?_⟩
      conv => whnf
      refine ⟨by omega, ?_⟩
      rw [show (f + (0 + (t : Int))) % 5 = r by omega]
      conv => whnf
      refine ⟨r, _, rfl, ix5 r04.1 r04.2 _, ?_⟩
      rw [l5_set r04.1 r04.2]
      iterate 5 ((conv => whnf); refine ⟨_, rfl, ?_⟩)
      conv => whnf
      refine ⟨(show 2 ≤ sizeLine by decide), ?_⟩
      refine ⟨rfl, hn2 _ (fun k k0 k1 => ?_) _⟩
      by_cases c : (f + k) % 5 = r
      · rw [c, ud_here]
      · rw [ud_else c]
        exact hx' k k0 (by omega)
  rintro σ ⟨x', hx', v6, v7, v9, rfl⟩
  have el : D.tup (l5 x') = keyD a b 4 := by
    unfold l5 keyD
    rw [hx' 0 (by decide) (by decide), hx' 1 (by decide) (by decide), hx' 2 (by decide) (by decide), hx' 3 (by decide) (by decide), hx' 4 (by decide) (by decide)]
  have rk : Rok (keyD a b 4) := by
    unfold keyD
    refine rok_tup (fun z hz => ?_) (by show 5 ≤ 1000; decide)
    have pk : ∀ r, 0 ≤ r → r ≤ 4 → Pok 1 13000 14000 (red (a r) (b r) 4) := fun r r0 r4 => red_pok ((sa r r0 r4).mono (by decide)) ((sb r r0 r4).mono (by decide)) (Sz.mono (show Sz 3 4 by decide) (by decide)) (by decide)
    simp only [List.mem_cons, List.not_mem_nil, or_false] at hz
    rcases hz with rfl | rfl | rfl | rfl | rfl <;> exact pk _ (by decide) (by decide)
  have sa' : Szf 1090 a := fun r r0 r4 => (sa r r0 r4).mono (by decide)
  have sb' : Szf 1090 b := fun r r0 r4 => (sb r r0 r4).mono (by decide)
  have m1000 : ∀ {z : Int}, Sz 120 z → Sz 1000 z := fun h => h.mono (by decide)
  conv => whnf
  refine ⟨j, x, y, i, u, v, a, b, rfl, j04.1, j04.2, i04.1, i04.2, ji, h, sa', sb', m1000 zx, m1000 zy, m1000 zu, m1000 zv, ejx.1, ejx.2.1, ejx.2.2.1, ejx.2.2.2, ?_⟩
  conv => whnf
  refine ⟨keyD a b 4, by rw [← el], rk, ?_⟩
  conv => whnf
  refine ⟨i, u, v, j, x, y, a, b, rfl, i04.1, i04.2, j04.1, j04.2, Ne.symm ji, h, sa', sb', m1000 zu, m1000 zv, m1000 zx, m1000 zy, ejx.2.2.1, ejx.2.2.2, ejx.1, ejx.2.1, ?_⟩
  conv => whnf
  refine ⟨_, rfl, rk, ?_⟩
  conv => whnf
  refine ⟨a, b, rfl, h, sa', sb', ?_⟩
  conv => whnf
  exact ⟨_, rfl, rok_b true, q⟩
theorem barX_221 {a b : Int → Int} {d : Int} {s : List Int} {j n : Int} (h : KA 180 a b d) (sd : Sz 30 d) (j0 : 0 ≤ j) (j4 : j ≤ 4) (hn : Sz 180 n) : Sz 221 (barX a b d s j n) := by
  have za := h.sa j j0 j4
  have zb := h.sb j j0 j4
  have one : ∀ {n : Nat}, Sz (n + 1) (1 : Int) := fun {n} => (by decide : Sz 1 (1 : Int)).mono (by omega)
  have zA : Sz 213 (d * n - d - a j) := ((((sd.mul hn)).sub (sd.mono (by decide))).mono (by decide : 211 ≤ 212)).sub (za.mono (by decide))
  have eA : (n - 1) * d - a j = d * n - d - a j := by grind
  have ef : flr (-b j - (d * n - d - a j)) (d * n - d - a j) d = bfl a b d j n := by
    unfold bfl
    rw [eA]
  have zf : Sz 220 (bfl a b d j n) := by
    rw [← ef]
    exact (flr_bound (n := 214) ((zb.neg.mono (by decide : 180 ≤ 213)).sub zA) (zA.mono (by decide)) h.d1).mono (by decide)
  unfold barX
  split
  · exact zf.add (one (n := 219))
  · exact zf.mono (by decide)
/-- a height near that of the bar n, and the bar sought -/
structure Ht (a b : Int → Int) (d : Int) (s : List Int) (j n u v w n0 : Int) : Prop where
  h : Num 240 u v w
  sw : Sz 10 w
  z0 : Sz 176 n0
  e0 : ∀ m, 0 < cHn a b d s j u v w m ↔ n0 < m
  lo : n - 2 ≤ n0
  hi : n0 ≤ n + 1
theorem ht_of {a b : Int → Int} {d : Int} {s : List Int} {j n m t k e f : Int} (h : KA 170 a b d) (sd : Sz 30 d) (hs : s ∈ sidesL (whL a b d)) (j0 : 0 ≤ j) (j4 : j ≤ 4) (en : n = m + t) (zm : Sz 175 m) (t1 : -500 ≤ t) (t2 : t ≤ 500) (k1 : 1 ≤ k) (k2 : k ≤ 25) (e1 : -4 ≤ e) (e2 : e ≤ 4) (f1 : -2 ≤ f) (f2 : f ≤ 2) : ∃ n0, Ht a b d s j n (hA (barX a b d s j n) (n - barX a b d s j n) * k + e) (hB (barX a b d s j n) (n - barX a b d s j n) * k + f) (4 * k) n0 := by
  have F := h.fl hs
  have zn : Sz 176 n := by
    rw [en]
    exact zm.add ((show Sz 20 t from Sz.small (by omega) (by omega)).mono (by decide))
  have zx := barX_221 (s := s) (h.up (by decide)) sd j0 j4 (zn.mono (by decide))
  have zy : Sz 222 (n - barX a b d s j n) := (zn.mono (by decide : 176 ≤ 221)).sub zx
  have z4 : Sz 3 (4 : Int) := by decide
  have z2 : Sz 2 (2 : Int) := by decide
  have zA : Sz 226 (hA (barX a b d s j n) (n - barX a b d s j n)) := by
    unfold hA
    exact ((z4.mul zx).sub ((z2.mul zy).mono (by decide : 2 + 222 ≤ 224))).sub (Sz.mono (show Sz 1 1 by decide) (by decide))
  have zB : Sz 227 (hB (barX a b d s j n) (n - barX a b d s j n)) := by
    unfold hB
    exact (((z2.mul zx).mono (by decide : 2 + 221 ≤ 225)).add (z4.mul zy)).sub (Sz.mono (show Sz 2 3 by decide) (by decide))
  have zk : Sz 5 k := by
    unfold Sz
    omega
  have z4k : Sz 10 (4 * k) := by
    unfold Sz
    omega
  have w1 : 1 ≤ 4 * k := by omega
  obtain ⟨n0, _, _, hn⟩ := ht_ex F j0 j4 (u := hA (barX a b d s j n) (n - barX a b d s j n) * k + e) (v := hB (barX a b d s j n) (n - barX a b d s j n) * k + f) w1
  obtain ⟨l1, l2⟩ := ht_near F j0 j4 e1 e2 f1 f2 k1 hn
  refine ⟨n0, ⟨?_, ?_, z4k.mono (by decide), w1⟩, z4k, ?_, hn, l1, l2⟩
  · exact Sz.mono ((zA.mul zk).add ((show Sz 20 e from Sz.small (by omega) (by omega)).mono (by decide : 20 ≤ 226 + 5))) (by decide)
  · exact Sz.mono ((zB.mul zk).add ((show Sz 20 f from Sz.small (by omega) (by omega)).mono (by decide : 20 ≤ 227 + 5))) (by decide)
  · have b1 : Sz 176 (m + (t - 2)) := zm.add ((show Sz 20 (t - 2) from Sz.small (by omega) (by omega)).mono (by decide))
    have b2 : Sz 176 (m + (t + 1)) := zm.add ((show Sz 20 (t + 1) from Sz.small (by omega) (by omega)).mono (by decide))
    exact Sz.betw b1 b2 (by omega) (by omega)
theorem bD_pok {a b : Int → Int} {d : Int} {s : List Int} {j n : Int} (h : KA 170 a b d) (j0 : 0 ≤ j) (j4 : j ≤ 4) (hn : Sz 400 n) : Pok 1 13000 14000 (bD a b d s j n) := by
  obtain ⟨zx, zy, _⟩ := ht_pt (s := s) h j0 j4 hn
  exact pok_tri ((show Sz 20 j from Sz.small (by omega) (by omega)).mono (by decide)) (zx.mono (by decide)) (zy.mono (by decide))
theorem bD_rok {a b : Int → Int} {d : Int} {s : List Int} {j n : Int} (h : KA 170 a b d) (j0 : 0 ≤ j) (j4 : j ≤ 4) (hn : Sz 400 n) : Rok (bD a b d s j n) := (bD_pok h j0 j4 hn).rok (by decide) (by decide) (by decide) rfl
theorem too_rok {m : Int} (h0 : 0 ≤ m) (h1 : m ≤ 600) : Rok (.tup [.str "TooMany", .int m]) := by
  have p1 : Pok 1 13000 14000 (.str "TooMany") := ⟨by decide +kernel, by decide +kernel, by decide +kernel⟩
  exact rok_tup (in2 p1 (int_pok (show Sz 20 m from Sz.small (by omega) (by omega)) (by decide))) (show 2 ≤ 1000 by decide)
set_option maxHeartbeats 8000000 in
theorem law_law : ∀ (dk l : Addr) (v : V), g_law (some (dk, l)) (fun _ => False) (endsD fun r => r = .bl true) (.d (.opq v) :: .d (.opq (.ref dk)) :: List.replicate 19 .no) := by
  intro dk l v
  unfold g_law
  refine seq_mid (P := fun σ => ∃ a b d s, Wld3 a b d s ∧ σ = [.d (.opq v), .d (dkD dk), .d (wrl a b d s), .no, .no, .no, .no, .no, .no, .no, .no, .no, .no, .no, .no, .no, .no, .no, .no, .no, .no]) ?rest0 ?head0
  case head0 =>
    intro E' hrt hnx
    conv => whnf
    refine ⟨_, _, _, rfl, rfl, by first | decide | omega, by first | decide | omega, fun x x0 x1 => ?_⟩
    refine ⟨rfl, rfl, ?_⟩
    conv => whnf
    refine ⟨dk, l, _, rfl, rfl, fun a b d s w => ?_⟩
    exact hnx _ ⟨a, b, d, s, w, rfl⟩
  rintro σ ⟨a, b, d, s, w3, rfl⟩
  obtain ⟨ka0, hs, sd⟩ := w3
  have ka : KA 170 a b d := ka0.up (by decide)
  have F := ka.fl hs
  have d1 := ka.d1
  have h5 : s.length = 5 := sidesL_five _ (whL_mem ka.r) s hs
  refine seq_mid (P := fun σ => ∃ j, (0 ≤ j ∧ j ≤ 4) ∧ σ = [.d (.opq v), .d (dkD dk), .d (wrl a b d s), .d (flo (keyD a b d) s), .d (.int j), .no, .no, .no, .no, .no, .no, .no, .no, .no, .no, .no, .no, .no, .no, .no, .no]) ?rest1 ?head1
  case head1 =>
    intro E' hrt hnx
    conv => whnf
    refine ⟨dk, l, a, b, d, s, rfl, rfl, ⟨ka.up (by decide), hs⟩, ?_⟩
    conv => whnf
    refine ⟨_, _, _, rfl, rfl, by first | decide | omega, by first | decide | omega, fun j j0 j1 => ?_⟩
    conv => whnf
    refine ⟨(show 2 ≤ sizeLine by decide), ?_⟩
    conv => whnf
    exact ⟨_, rfl, rfl, hnx _ ⟨j, by omega, rfl⟩⟩
  rintro σ ⟨j, j04, rfl⟩
  obtain ⟨j0, j4⟩ := j04
  refine seq_mid (P := fun σ => ∃ m, Sz 175 m ∧ σ = [.d (.opq v), .d (dkD dk), .d (wrl a b d s), .d (flo (keyD a b d) s), .d (.int j), .d (.int m), .no, .no, .no, .no, .no, .no, .no, .no, .no, .no, .no, .no, .no, .no, .no]) ?rest2 ?head2
  case head2 =>
    intro E' hrt hnx
    conv => whnf
    refine ⟨dk, l, a, b, d, s, j, rfl, rfl, ka, j0, j4, fun m zm => ?_⟩
    exact hnx _ ⟨m, zm, rfl⟩
  rintro σ ⟨m, zm, rfl⟩
  refine seq_mid (P := fun σ => ∃ u u' w n0, Ht a b d s j m u u' w n0 ∧ σ = [.d (.opq v), .d (dkD dk), .d (wrl a b d s), .d (flo (keyD a b d) s), .d (.int j), .d (.int m), .d (tri u u' w), .no, .no, .no, .no, .no, .no, .no, .no, .no, .no, .no, .no, .no, .no]) ?rest3 ?head3
  case head3 =>
    intro E' hrt hnx
    conv => whnf
    refine ⟨dk, l, a, b, d, s, j, m, rfl, rfl, ka, sd, hs, j0, j4, zm.mono (by decide), fun k e f k1 k2 e1 e2 f1 f2 => ?_⟩
    obtain ⟨n0, hh⟩ := ht_of (n := m) (m := m) (t := 0) ka sd hs j0 j4 (by omega) zm (by decide) (by decide) k1 k2 e1 e2 f1 f2
    exact hnx _ ⟨_, _, _, n0, hh, rfl⟩
  rintro σ ⟨u, u', w, n0, hl, rfl⟩
  refine seq_mid (P := fun σ => ∃ t, (-1 ≤ t ∧ t ≤ 410) ∧ σ = [.d (.opq v), .d (dkD dk), .d (wrl a b d s), .d (flo (keyD a b d) s), .d (.int j), .d (.int m), .d (tri u u' w), .d (.int t), .no, .no, .no, .no, .no, .no, .no, .no, .no, .no, .no, .no, .no]) ?rest4 ?head4
  case head4 =>
    intro E' hrt hnx
    ((conv => whnf); repeat decreasing_trivial_pre_omega)
    refine ⟨dk, l, _, rfl, .inr rfl, by decide, by decide, fun z hz => ?_⟩
    have hb : ∃ t : Int, z = .int t ∧ (-1 ≤ t ∧ t ≤ 410) := by
      simp only [List.mem_cons, List.not_mem_nil, or_false] at hz
      rcases hz with rfl | rfl | rfl | rfl | rfl | rfl | rfl | rfl | rfl | rfl | rfl | rfl <;> exact ⟨_, rfl, by decide, by decide⟩
    obtain ⟨t, rfl, ht⟩ := hb
    clear hz
    exact hnx _ ⟨t, ht, rfl⟩
  rintro σ ⟨t, ht, rfl⟩
  refine seq_mid (P := fun σ => ∃ t, (-1 ≤ t ∧ t ≤ 410) ∧ σ = [.d (.opq v), .d (dkD dk), .d (wrl a b d s), .d (flo (keyD a b d) s), .d (.int j), .d (.int m), .d (tri u u' w), .d (.int t), .no, .no, .no, .no, .no, .no, .no, .no, .no, .no, .no, .no, .no]) ?rest5 ?head5
  case head5 =>
    intro E' hrt hnx
    conv => whnf
    refine ⟨rfl, rfl, ?_⟩
    rw [eqb_int]
    by_cases c : t = 410
    · rw [decide_eq_true c]
      ((conv => whnf); repeat decreasing_trivial_pre_omega)
      refine ⟨dk, l, _, rfl, .inr rfl, by decide, by decide, fun z hz => ?_⟩
      have hb : ∃ t : Int, z = .int t ∧ (-1 ≤ t ∧ t ≤ 410) := by
        simp only [List.mem_cons, List.not_mem_nil, or_false] at hz
        rcases hz with rfl | rfl | rfl | rfl <;> exact ⟨_, rfl, by decide, by decide⟩
      obtain ⟨t, rfl, ht⟩ := hb
      clear hz
      exact hnx _ ⟨t, ht, rfl⟩
    · rw [decide_eq_false c]
      exact hnx _ ⟨t, ht, rfl⟩
  clear ht t
  rintro σ ⟨t, ht, rfl⟩
  refine seq_mid (P := fun σ => ∃ p p' q n1, Ht a b d s j (m + t) p p' q n1 ∧ σ = [.d (.opq v), .d (dkD dk), .d (wrl a b d s), .d (flo (keyD a b d) s), .d (.int j), .d (.int m), .d (tri u u' w), .d (.int t), .d (tri p p' q), .no, .no, .no, .no, .no, .no, .no, .no, .no, .no, .no, .no]) ?rest6 ?head6
  case head6 =>
    intro E' hrt hnx
    have zt : Sz 175 t := (show Sz 20 t from Sz.small (by omega) (by omega)).mono (by decide)
    conv => whnf
    refine ⟨dk, l, a, b, d, s, j, m + t, rfl, rfl, ka, sd, hs, j0, j4, (zm.add zt).mono (by decide), fun k e f k1 k2 e1 e2 f1 f2 => ?_⟩
    obtain ⟨n1, hh⟩ := ht_of (n := m + t) (m := m) (t := t) ka sd hs j0 j4 rfl zm (by omega) (by omega) k1 k2 e1 e2 f1 f2
    exact hnx _ ⟨_, _, _, n1, hh, rfl⟩
  rintro σ ⟨p, p', q, n1, hr, rfl⟩
  refine seq_mid (P := fun σ => σ = [.d (.opq v), .d (dkD dk), .d (wrl a b d s), .d (flo (keyD a b d) s), .d (.int j), .d (.int m), .d (tri u u' w), .d (.int t), .d (tri p p' q), .d (.int n0), .d (.int n1), .no, .no, .no, .no, .no, .no, .no, .no, .no, .no]) ?rest7 ?head7
  case head7 =>
    intro E' hrt hnx
    conv => whnf
    refine ⟨a, b, d, s, j, u, u', w, n0, rfl, ka, sd, hs, j0, j4, hl.h.1, hl.h.2.1, hl.sw, hl.h.2.2.2, hl.z0, hl.e0, ?_⟩
    conv => whnf
    refine ⟨a, b, d, s, j, p, p', q, n1, rfl, ka, sd, hs, j0, j4, hr.h.1, hr.h.2.1, hr.sw, hr.h.2.2.2, hr.z0, hr.e0, ?_⟩
    exact ⟨rfl, hnx _ rfl⟩
  rintro σ rfl
  refine seq_mid (P := fun σ => σ = [.d (.opq v), .d (dkD dk), .d (wrl a b d s), .d (flo (keyD a b d) s), .d (.int j), .d (.int m), .d (tri u u' w), .d (.int t), .d (tri p p' q), .d (.int n0), .d (.int n1), .no, .no, .no, .no, .no, .no, .no, .no, .no, .no]) ?rest8 ?head8
  case head8 =>
    intro E' hrt hnx
    conv => whnf
    refine ⟨j, u, u', w, n0, a, b, d, s, rfl, ka, hs, j0, j4, hl.h, hl.sw, sd, hl.z0, hl.e0, ?_⟩
    conv => whnf
    refine ⟨a, b, d, s, j, n0, rfl, ka.up (by decide), sd, hs, j0, j4, hl.z0.mono (by decide), fun _ => ?_⟩
    conv => whnf
    refine ⟨_, rfl, bD_rok ka j0 j4 (hl.z0.mono (by decide)), ?_⟩
    conv => whnf
    exact hnx _ rfl
  rintro σ rfl
  refine seq_mid (P := fun σ => σ = [.d (.opq v), .d (dkD dk), .d (wrl a b d s), .d (flo (keyD a b d) s), .d (.int j), .d (.int m), .d (tri u u' w), .d (.int t), .d (tri p p' q), .d (.int n0), .d (.int n1), .no, .no, .no, .no, .no, .no, .no, .no, .no, .no]) ?rest9 ?head9
  case head9 =>
    intro E' hrt hnx
    conv => whnf
    refine ⟨j, p, p', q, n1, a, b, d, s, rfl, ka, hs, j0, j4, hr.h, hr.sw, sd, hr.z0, hr.e0, ?_⟩
    conv => whnf
    refine ⟨a, b, d, s, j, n1, rfl, ka.up (by decide), sd, hs, j0, j4, hr.z0.mono (by decide), fun _ => ?_⟩
    conv => whnf
    refine ⟨_, rfl, bD_rok ka j0 j4 (hr.z0.mono (by decide)), ?_⟩
    conv => whnf
    exact hnx _ rfl
  rintro σ rfl
  obtain ⟨st, est⟩ : ∃ st, st = btS a b d s j u u' w n0 := ⟨_, rfl⟩
  obtain ⟨N, eN⟩ : ∃ N, N = btN a b d s j u u' w n0 n1 := ⟨_, rfl⟩
  have eN2 : N = (n1 + 1 - st).toNat := by rw [eN, est]; rfl
  have st01 : n0 ≤ st ∧ st ≤ n0 + 1 := by
    rw [est]
    unfold btS
    split <;> omega
  have one : ∀ {n : Nat}, Sz (n + 1) (1 : Int) := fun {n} => (by decide : Sz 1 (1 : Int)).mono (by omega)
  have bt : ∀ mo : Int, 0 ≤ mo → BtW a b d s j u u' w p p' q mo n0 n1 := fun mo h0 => ⟨ka, hs, j0, j4, hl.h, hr.h, hl.z0, hr.z0, hl.e0, hr.e0, hl.sw, hr.sw, sd, h0, by have := hl.lo; have := hr.hi; omega⟩
  have N414 : N ≤ 414 := by
    have := hl.lo
    have := hr.hi
    omega
  have zi : ∀ i : Nat, i < N → Sz 180 (st + i) := fun i hi => by
    exact Sz.betw (n := 180) (hl.z0.mono (by decide)) (hr.z0.mono (by decide)) (by omega) (by omega)
  refine seq_mid (P := fun σ => σ = [.d (.opq v), .d (dkD dk), .d (wrl a b d s), .d (flo (keyD a b d) s), .d (.int j), .d (.int m), .d (tri u u' w), .d (.int t), .d (tri p p' q), .d (.int st), .d (.int n1), .no, .no, .no, .no, .no, .no, .no, .no, .no, .no]) ?rest10 ?head10
  case head10 =>
    intro E' hrt hnx
    have z0 : Sz 400 n0 := hl.z0.mono (by decide)
    obtain ⟨zx, zy, _⟩ := ht_pt (s := s) ka j0 j4 z0
    conv => whnf
    refine ⟨a, b, d, s, j, n0, rfl, ka.up (by decide), sd, hs, j0, j4, hl.z0.mono (by decide), fun _ => ?_⟩
    conv => whnf
    refine ⟨j, _, _, u, u', w, rfl, zx, zy, hl.h.1.mono (by decide), hl.h.2.1.mono (by decide), hl.h.2.2.1.mono (by decide), ?_⟩
    rw [show cHt u u' w (barX a b d s j n0) (n0 - barX a b d s j n0) = cHn a b d s j u u' w n0 from rfl]
    conv => whnf
    have e' : st = if cHn a b d s j u u' w n0 < 0 then n0 + 1 else n0 := est
    by_cases c : cHn a b d s j u u' w n0 < 0
    · rw [decide_eq_true c]
      rw [if_pos c] at e'
      subst e'
      exact hnx _ rfl
    · rw [decide_eq_false c]
      rw [if_neg c] at e'
      subst e'
      exact hnx _ rfl
  rintro σ rfl
  refine seq_mid (P := fun σ => ∃ v20, σ = [.d (.opq v), .d (dkD dk), .d (wrl a b d s), .d (flo (keyD a b d) s), .d (.int j), .d (.int m), .d (tri u u' w), .d (.int t), .d (tri p p' q), .d (.int st), .d (.int n1), .d (.tup (barsL a b d s j st N)), .no, .no, .no, .no, .no, .no, .no, .no, v20]) ?rest11 ?head11
  case head11 =>
    intro E' hrt hnx
    conv => whnf
    refine ⟨st, n1 + 1, rfl, ?_⟩
    rw [← eN2]
    unfold ND.intsFrom
    refine lc_gen (fun i : Nat => D.int (st + (i : Int))) (fun _ => true) (fun i : Nat => bD a b d s j (st + (i : Int))) (List.range N) [] (fun i hi A C f1 _ => ?_) ?_ ?_
    · have hi : i < N := List.mem_range.mp hi
      conv => whnf
      exact ⟨a, b, d, s, j, st + i, rfl, ka.up (by decide), sd, hs, j0, j4, zi i hi, fun _ => f1 rfl⟩
    · rw [List.length_range]
      exact Nat.le_trans (show 0 + N ≤ 1000 by omega) (by decide)
    · rw [List.filter_eq_self.mpr fun _ _ => rfl, List.nil_append]
      exact hnx _ ⟨_, rfl⟩
  rintro σ ⟨v20, rfl⟩
  have bl := barsL_len a b d s j st N
  have rkb : Rok (.tup (barsL a b d s j st N)) := by
    refine rok_tup (fun y hy => ?_) (by omega)
    obtain ⟨i, hi, rfl⟩ := List.mem_map.mp hy
    exact bD_pok ka j0 j4 ((zi i (List.mem_range.mp hi)).mono (by decide))
  refine seq_mid (P := fun σ => ∃ v12 v19, σ = [.d (.opq v), .d (dkD dk), .d (wrl a b d s), .d (flo (keyD a b d) s), .d (.int j), .d (.int m), .d (tri u u' w), .d (.int t), .d (tri p p' q), .d (.int st), .d (.int n1), .d (.tup (barsL a b d s j st N)), v12, .no, .no, .no, .no, .no, .no, v19, v20]) ?rest12 ?head12
  case head12 =>
    intro E' hrt hnx
    conv => whnf
    refine ⟨_, _, _, rfl, rfl, by first | decide | omega, by first | decide | omega, fun x x0 x1 => ?_⟩
    conv => whnf
    refine ⟨(show 4 ≤ sizeLine by decide), ?_⟩
    conv => whnf
    refine forL_in ?_
    refine forG_inv (fun ds σ => (∀ z ∈ ds, ∃ k : Int, z = .int k ∧ k ≤ 500) ∧ ∃ v12 v19, σ = [.d (.opq v), .d (dkD dk), .d (wrl a b d s), .d (flo (keyD a b d) s), .d (.int j), .d (.int m), .d (tri u u' w), .d (.int t), .d (tri p p' q), .d (.int st), .d (.int n1), .d (.tup (barsL a b d s j st N)), v12, .no, .no, .no, .no, .no, .no, v19, v20]) ?_ ?_ _ _ ⟨?_, _, _, rfl⟩
    · rintro σ ⟨_, v12, v19, rfl⟩
      exact hnx _ ⟨_, _, rfl⟩
    · rintro z zs σ ⟨hz, v12, v19, rfl⟩ E2 hrt2 hbk2 hnx2 hct2
      obtain ⟨mo, rfl, m5⟩ := hz z List.mem_cons_self
      have hn2 := fun v12 v19 => hnx2 _ ⟨fun z m => hz z (List.mem_cons_of_mem _ m), v12, v19, rfl⟩
      conv => whnf
      by_cases c0 : mo ≥ 0
      · rw [decide_eq_true c0]
        conv => whnf
        refine ⟨j, u, u', w, p, p', q, mo, n0, n1, a, b, d, s, rfl, bt mo c0, ?_⟩
        rw [← est, ← eN]
        conv => whnf
        rw [bl]
        by_cases c : (N : Int) ≤ mo
        · rw [decide_eq_true c, if_pos c]
          conv => whnf
          refine ⟨_, rfl, rkb, ?_⟩
          conv => whnf
          exact hn2 _ _
        · rw [decide_eq_false c, if_neg c]
          conv => whnf
          refine ⟨(show 2 ≤ sizeLine by decide), ?_⟩
          conv => whnf
          refine ⟨_, rfl, too_rok c0 (by omega), ?_⟩
          conv => whnf
          exact hn2 _ _
      · rw [decide_eq_false c0]
        exact hn2 _ _
    · intro z hz
      rw [bl] at hz
      simp only [List.mem_cons, List.not_mem_nil, or_false] at hz
      rcases hz with rfl | rfl | rfl | rfl
      · exact ⟨_, rfl, by decide⟩
      · exact ⟨_, rfl, by omega⟩
      · exact ⟨_, rfl, by omega⟩
      · exact ⟨_, rfl, by omega⟩
  rintro σ ⟨v12, v19, rfl⟩
  refine seq_mid (P := fun σ => ∃ v13 v14 v15 v16 v17 v18, σ = [.d (.opq v), .d (dkD dk), .d (wrl a b d s), .d (flo (keyD a b d) s), .d (.int j), .d (.int m), .d (tri u u' w), .d (.int t), .d (tri p p' q), .d (.int st), .d (.int n1), .d (.tup (barsL a b d s j st N)), v12, v13, v14, v15, v16, v17, v18, v19, v20]) ?rest13 ?head13
  case head13 =>
    intro E' hrt hnx
    conv => whnf
    refine ⟨3, rfl, by decide, by decide, ?_⟩
    refine forL_in ?_
    refine forG_rng (S := fun _ σ => ∃ v13 v14 v15 v16 v17 v18, σ = [.d (.opq v), .d (dkD dk), .d (wrl a b d s), .d (flo (keyD a b d) s), .d (.int j), .d (.int m), .d (tri u u' w), .d (.int t), .d (tri p p' q), .d (.int st), .d (.int n1), .d (.tup (barsL a b d s j st N)), v12, v13, v14, v15, v16, v17, v18, v19, v20]) 0 3 _ ⟨_, _, _, _, _, _, rfl⟩ ?_ ?_
    · rintro σ ⟨v13, v14, v15, v16, v17, v18, rfl⟩
      exact hnx _ ⟨_, _, _, _, _, _, rfl⟩
    · rintro i hi σ ⟨v13, v14, v15, v16, v17, v18, rfl⟩ E2 hrt2 hnx2 hct2
      have hn2 := fun v13 v14 v15 v16 v17 v18 => hnx2 _ ⟨v13, v14, v15, v16, v17, v18, rfl⟩
      clear hnx hnx2 hct2
      rw [Int.zero_add]
      generalize barsL a b d s j st N = bb at *
      show gSeq (gIfS _ _ _) _ E2 [.d (.opq v), .d (dkD dk), .d (wrl a b d s), .d (flo (keyD a b d) s), .d (.int j), .d (.int m), .d (tri u u' w), .d (.int t), .d (tri p p' q), .d (.int st), .d (.int n1), .d (.tup bb), v12, .d (.int i), v14, v15, v16, v17, v18, v19, v20]
      refine seq_mid (P := fun σ => σ = [.d (.opq v), .d (dkD dk), .d (wrl a b d s), .d (flo (keyD a b d) s), .d (.int j), .d (.int m), .d (tri u u' w), .d (.int t), .d (tri p p' q), .d (.int st), .d (.int n1), .d (.tup bb), v12, .d (.int i), v14, v15, v16, v17, v18, v19, v20]) ?ra ?ha
      case ha =>
        intro E3 hrt3 hnx3
        conv => whnf
        refine ⟨dk, l, rfl, rfl, ?_⟩
        conv => whnf
        exact hnx3 _ rfl
      rintro σ rfl
      refine seq_mid (P := fun σ => ∃ c, (0 ≤ c ∧ c ≤ 4) ∧ σ = [.d (.opq v), .d (dkD dk), .d (wrl a b d s), .d (flo (keyD a b d) s), .d (.int j), .d (.int m), .d (tri u u' w), .d (.int t), .d (tri p p' q), .d (.int st), .d (.int n1), .d (.tup bb), v12, .d (.int i), .d (.int c), v15, v16, v17, v18, v19, v20]) ?rb ?hb
      case hb =>
        intro E3 hrt3 hnx3
        conv => whnf
        refine ⟨_, _, _, rfl, rfl, by first | decide | omega, by first | decide | omega, fun c c0 c1 => ?_⟩
        exact hnx3 _ ⟨c, by omega, rfl⟩
      rintro σ ⟨c, c04, rfl⟩
      obtain ⟨c0, c4⟩ := c04
      refine seq_mid (P := fun σ => ∃ x y, Sz 240 x ∧ Sz 240 y ∧ Sz 180 (x + y) ∧ σ = [.d (.opq v), .d (dkD dk), .d (wrl a b d s), .d (flo (keyD a b d) s), .d (.int j), .d (.int m), .d (tri u u' w), .d (.int t), .d (tri p p' q), .d (.int st), .d (.int n1), .d (.tup bb), v12, .d (.int i), .d (.int c), .d (brD c x y), v16, v17, v18, v19, v20]) ?rc ?hc
      case hc =>
        intro E3 hrt3 hnx3
        conv => whnf
        refine ⟨dk, l, rfl, rfl, fun x zx => ?_⟩
        conv => whnf
        refine ⟨dk, l, rfl, rfl, fun y zy => ?_⟩
        conv => whnf
        refine ⟨(show 3 ≤ sizeLine by decide), ?_⟩
        exact hnx3 _ ⟨x, y, zx.mono (by decide), zy.mono (by decide), (zx.add zy).mono (by decide), rfl⟩
      rintro σ ⟨x, y, zx, zy, zs, rfl⟩
      refine seq_mid (P := fun σ => ∃ x y, Sz 240 x ∧ Sz 240 y ∧ Sz 180 (x + y) ∧ σ = [.d (.opq v), .d (dkD dk), .d (wrl a b d s), .d (flo (keyD a b d) s), .d (.int j), .d (.int m), .d (tri u u' w), .d (.int t), .d (tri p p' q), .d (.int st), .d (.int n1), .d (.tup bb), v12, .d (.int i), .d (.int c), .d (brD c x y), v16, v17, v18, v19, v20]) ?rd ?hd
      case hd =>
        intro E3 hrt3 hnx3
        conv => whnf
        by_cases g : (i : Int) > 0
        · rw [decide_eq_true g]
          conv => whnf
          refine ⟨dk, l, a, b, d, s, c, rfl, rfl, ka, c0, c4, fun n zn => ?_⟩
          conv => whnf
          refine ⟨a, b, d, s, c, n, rfl, ka.up (by decide), sd, hs, c0, c4, zn.mono (by decide), fun zx => ?_⟩
          exact hnx3 _ ⟨_, _, zx.mono (by decide), ((zn.mono (by decide : 175 ≤ 230)).sub zx).mono (by decide), by rw [show barX a b d s c n + (n - barX a b d s c n) = n by omega]; exact zn.mono (by decide), rfl⟩
        · rw [decide_eq_false g]
          exact hnx3 _ ⟨x, y, zx, zy, zs, rfl⟩
      clear zs zx zy x y
      rintro σ ⟨x, y, zx, zy, zs, rfl⟩
      refine seq_mid (P := fun σ => ∃ x y, Sz 241 x ∧ Sz 241 y ∧ Sz 180 (x + y) ∧ σ = [.d (.opq v), .d (dkD dk), .d (wrl a b d s), .d (flo (keyD a b d) s), .d (.int j), .d (.int m), .d (tri u u' w), .d (.int t), .d (tri p p' q), .d (.int st), .d (.int n1), .d (.tup bb), v12, .d (.int i), .d (.int c), .d (brD c x y), v16, v17, v18, v19, v20]) ?re ?he
      case he =>
        intro E3 hrt3 hnx3
        conv => whnf
        refine ⟨rfl, rfl, ?_⟩
        rw [eqb_int]
        by_cases g : (i : Int) = 2
        · rw [decide_eq_true g]
          conv => whnf
          refine ⟨_, rfl, ?_⟩
          conv => whnf
          refine ⟨_, rfl, ?_⟩
          conv => whnf
          refine ⟨(show 3 ≤ sizeLine by decide), ?_⟩
          exact hnx3 _ ⟨_, _, zx.add (one (n := 239)), zy.sub (one (n := 239)), by rw [show x + 1 + (y - 1) = x + y by omega]; exact zs, rfl⟩
        · rw [decide_eq_false g]
          exact hnx3 _ ⟨x, y, zx.mono (by decide), zy.mono (by decide), zs, rfl⟩
      clear zs zx zy x y
      rintro σ ⟨x, y, zx, zy, zs, rfl⟩
      have zxy : Sz 242 (x + y) := zx.add zy
      have za := ka.sa c c0 c4
      have zb := ka.sb c c0 c4
      have zA : Sz 300 (d * (x + y) - a c) := (((sd.mul zxy)).sub (za.mono (by decide : 170 ≤ 272))).mono (by decide)
      have zB : Sz 300 (-d * x - b c) := (((sd.neg.mul zx)).sub (zb.mono (by decide : 170 ≤ 271))).mono (by decide)
      refine seq_mid (P := fun σ => σ = [.d (.opq v), .d (dkD dk), .d (wrl a b d s), .d (flo (keyD a b d) s), .d (.int j), .d (.int m), .d (tri u u' w), .d (.int t), .d (tri p p' q), .d (.int st), .d (.int n1), .d (.tup bb), v12, .d (.int i), .d (.int c), .d (brD c x y), .d (.int (d * (x + y) - a c)), .d (.int (-d * x - b c)), v18, v19, v20]) ?rf ?hf
      case hf =>
        intro E3 hrt3 hnx3
        conv => whnf
        refine ⟨_, rfl, ?_⟩
        conv => whnf
        refine ⟨_, rfl, ?_⟩
        conv => whnf
        refine ⟨_, rfl, ?_⟩
        conv => whnf
        refine ⟨a, b, d, s, c, x + y, x, rfl, ka.up (by decide), c0, c4, zxy.mono (by decide), zx.mono (by decide), ?_⟩
        conv => whnf
        exact ⟨_, rfl, rfl, hnx3 _ rfl⟩
      rintro σ rfl
      refine seq_mid (P := fun σ => σ = [.d (.opq v), .d (dkD dk), .d (wrl a b d s), .d (flo (keyD a b d) s), .d (.int j), .d (.int m), .d (tri u u' w), .d (.int t), .d (tri p p' q), .d (.int st), .d (.int n1), .d (.tup bb), v12, .d (.int i), .d (.int c), .d (brD c x y), .d (.int (d * (x + y) - a c)), .d (.int (-d * x - b c)), v18, v19, v20]) ?rg ?hg
      case hg =>
        intro E3 hrt3 hnx3
        have rk : Rok (red (d * (x + y) - a c) (-d * x - b c) d) := (red_pok (zA.mono (by decide)) (zB.mono (by decide)) (sd.mono (by decide)) d1).rok (by decide) (by decide) (by decide) rfl
        conv => whnf
        refine ⟨c, x, y, a, b, d, s, rfl, ka.up (by decide), c0, c4, zx.mono (by decide), zy.mono (by decide), ?_⟩
        conv => whnf
        refine ⟨_, rfl, ?_⟩
        conv => whnf
        refine ⟨_, _, d, rfl, zA.mono (by decide), zB.mono (by decide), sd.mono (by decide), d1, ?_⟩
        rw [show (x + y) * d - a c = d * (x + y) - a c by rw [Int.mul_comm], show -x * d - b c = -d * x - b c by grind]
        conv => whnf
        refine ⟨_, rfl, rk, ?_⟩
        conv => whnf
        exact hnx3 _ rfl
      rintro σ rfl
      refine seq_mid (P := fun σ => σ = [.d (.opq v), .d (dkD dk), .d (wrl a b d s), .d (flo (keyD a b d) s), .d (.int j), .d (.int m), .d (tri u u' w), .d (.int t), .d (tri p p' q), .d (.int st), .d (.int n1), .d (.tup bb), v12, .d (.int i), .d (.int c), .d (brD c x y), .d (.int (d * (x + y) - a c)), .d (.int (-d * x - b c)), .d (.bl (hasR a b d s c x y)), v19, v20]) ?rh ?hh
      case hh =>
        intro E3 hrt3 hnx3
        have bu := bar_has F c0 c4 (x + y)
        have fin : eqb (brD c x y) (brD c (barX a b d s c (x + y)) (x + y - barX a b d s c (x + y))) = hasR a b d s c x y := by
          have e := eqb_tD [c, x, y] [c, barX a b d s c (x + y), x + y - barX a b d s c (x + y)]
          refine e.trans ?_
          cases hc : hasR a b d s c x y
          · refine decide_eq_false fun z => ?_
            simp only [List.cons.injEq] at z
            rw [← z.2.1, show x + y - x = y by omega, hc] at bu
            cases bu
          · refine decide_eq_true ?_
            rw [bar_uniq F c0 c4 bu hc (by omega), show x + y - x = y by omega]
        conv => whnf
        refine ⟨_, rfl, ?_⟩
        conv => whnf
        refine ⟨_, rfl, ?_⟩
        conv => whnf
        refine ⟨a, b, d, s, c, x + y, rfl, ka.up (by decide), sd, hs, c0, c4, zs, fun _ => ?_⟩
        conv => whnf
        refine ⟨rfl, rfl, ?_⟩
        rw [fin]
        exact hnx3 _ rfl
      rintro σ rfl
      conv => whnf
      refine ⟨c, x, y, a, b, d, s, rfl, ka.up (by decide), h5, c0, c4, zx.mono (by decide), zy.mono (by decide), ?_⟩
      conv => whnf
      refine ⟨c, x, y, a, b, d, s, rfl, ka.up (by decide), h5, c0, c4, zx.mono (by decide), zy.mono (by decide), ?_⟩
      conv => whnf
      refine ⟨(show 2 ≤ sizeLine by decide), ?_⟩
      conv => whnf
      refine ⟨(show 2 ≤ sizeLine by decide), ?_⟩
      conv => whnf
      refine ⟨_, rfl, rok_bb _ _, ?_⟩
      conv => whnf
      exact hn2 _ _ _ _ _ _
  rintro σ ⟨v13, v14, v15, v16, v17, v18, rfl⟩
  conv => whnf
set_option maxHeartbeats 8000000
section
variable {P : Program} {w : World} {K : PySem.W.Frag} {mg : Str → Option Value} {base : Heap} {T : List (Addr × Str)}
theorem ok__law_draw {f : Addr} {fd : FuncData} (bt : Bt mg) (hm : mg "_law_draw" = some (.ref f)) (F : Fun K "_law_draw" "_law_draw" (top 69) f fd) : OkD P w K mg base T "_law_draw" (top 69) 1 ["_law_deck_here", "_law_many"] spDraw := by
  refine ⟨f, fd, hm, F, okDraw (c := 69621) F sc__law_draw rfl rfl (small64 (by decide) (by decide)) fun cdv A outer s H E hr => ?_⟩
  have hu := hu_of hr
  have h64 := hr.units
  have nd := sc__law_draw.nd
  have it : ∀ {t : Str}, t = t := rfl
  exact pss_cons (ps_dput hu (pv 0) pe_str (pe_op op_add (pe_dget hu (pv 0) pe_str nosl) pe_int) rfl)
    (pss_cons (ps_set (i := 2) nd rfl (Or.inl rfl) (pe_op op_add (pe_dget hu (pv 0) pe_str nosl) (pe_op op_mul pe_int (pe_dget hu (pv 0) pe_str nosl))))
    (pss_cons (ps_if (pt_cmpR (op_neD h64) (pe_dget hu (pv 0) pe_str nosl) (pe_lst pa_nil) (nomark _))
      (pss_cons (ps_set (i := 3) nd rfl (Or.inl rfl) (pe_bm0 PySem.F.plainAttrs_list PySem.F.slot_list_pop PySem.F.type_list_pop mt_pop (pe_dget hu (pv 0) pe_str nosl)))
      (pss_cons (ps_if (pt_cmpR op_ge (pv 3) (pe_op op_pow pe_int pe_int) (nomark _))
        (pss_cons (ps_expr (pe_bm PySem.F.plainAttrs_list PySem.F.slot_list_append PySem.F.type_list_append mt_append (pe_dget hu (pv 0) pe_str nosl) (pa_cons (pe_op op_fdivW (pv 3) (pe_callB (call_max2 rfl) rfl bt.b_max nbMax (pa_cons pe_int (pa_cons (pv 1) pa_nil)))) pa_nil)))
        (pss_one (ps_ret (pe_op op_mod (pe_callTy call_int1 rfl bt.b_int nbInt (pa_cons (pv 3) pa_nil)) (pv 1)))))
        pss_nil)
      (pss_one (ps_set (i := 2) nd rfl (Or.inl rfl) (pe_op op_add (pv 2) (pe_op op_mod (pe_callTy call_int1 rfl bt.b_int nbInt (pa_cons (pv 3) pa_nil)) pe_int))))))
      pss_nil)
    (pss_cons (ps_set (i := 2) nd rfl (Or.inl rfl) (pe_op op_mod (pe_callTy call_int1 rfl bt.b_int nbInt (pa_cons (pe_op op_add (pe_op op_mul (pv 2) pe_int) pe_int) pa_nil)) pe_int))
    (pss_cons (ps_set (i := 2) nd rfl (Or.inl rfl) (pe_op op_mod (pe_callTy call_int1 rfl bt.b_int nbInt (pa_cons (pe_op op_add (pe_op op_add (pe_op op_mul (pv 2) (pv 2)) (pe_op op_mul pe_int (pe_dget hu (pv 0) pe_str nosl))) pe_int) pa_nil)) pe_int))
    (pss_cons (ps_set (i := 2) nd rfl (Or.inl rfl) (pe_op op_mod (pe_callTy call_int1 rfl bt.b_int nbInt (pa_cons (pe_op op_mul (pv 2) pe_int) pa_nil)) pe_int))
    (pss_one (ps_ret (pe_op op_mod (pe_callTy call_int1 rfl bt.b_int nbInt (pa_cons (pe_op op_fdivW (pv 2) pe_int) pa_nil)) (pv 1)))))))))
theorem ok__law_deck {f : Addr} {fd : FuncData} (bt : Bt mg) (F : Fun K "_law_deck" "_law_deck" (top 68) f fd) : FnOk P w K mg base (L2.CX P w) 1 f fd ["_law_script"] (spDeck K) := by
  refine okDeck (c := 10879044) (b := 57) F sc__law_deck rfl rfl (by decide) fun cdv A outer s H E hr => ?_
  have nd := sc__law_deck.nd
  exact pss_cons (ps_set (i := 1) nd rfl (Or.inl rfl) pe_int)
    (pss_cons (ps_for (passes_of rfl) rfl (pi_list (pe_slice sl_list (pv 0) po_none (po_some pe_int))) (pg_name (i := 2) nd rfl (Or.inl rfl))
      (pss_one (ps_set (i := 1) nd rfl (Or.inl rfl) (pe_op op_mod (pe_callTy call_int1 rfl bt.b_int nbInt (pa_cons (pe_op op_add (pe_op op_add (pe_op op_mul (pv 1) pe_int) (pe_op op_mod (pe_callTy call_int1 rfl bt.b_int nbInt (pa_cons (pv 2) pa_nil)) pe_int)) pe_int) pa_nil)) pe_int))))
    (pss_one (ps_ret (pe_disp (pps_cons pe_str (pe_revL (pe_callTy call_list_of rfl bt.b_list nbList (pa_cons (pe_slice sl_list (pv 0) po_none (po_some pe_int)) pa_nil))) (pps_cons pe_str (pv 1) (pps_cons pe_str pe_int pps_nil))) rfl rfl (by simp) (by decide)))))
theorem ok_is_integer {f : Addr} {fd : FuncData} (bt : Bt mg) (ct : Ct K mg) (hm : mg "is_integer" = some (.ref f)) (F : Fun K "is_integer" "is_integer" (top 2) f fd)  : OkD P w K mg base T "is_integer" (top 2) 1 ["thing"] sp_is_integer := by
  refine ⟨f, fd, hm, F, okD (g := g_is_integer) F sc_is_integer len_is_integer (fun cdv A outer s H E W F R hr hE hp hx => ?_) law_is_integer⟩
  have nd := sc_is_integer.nd
  have hu65 := hu65_of hr
  exact (sds_one (sd_ret (ed_and (ed_callB (c_isiX ct.ob) (by rfl) bt.b_isinstance nbIsi (abd_cons (ed_var 0 (pv 0)).toB (abd_cons (ed_ty (by rfl) bt.b_int nbInt).toB abd_nil))) (ed_one (ed_not (ed_callB (c_isiX ct.ob) (by rfl) bt.b_isinstance nbIsi (abd_cons (ed_var 0 (pv 0)).toB (abd_cons (ed_ty (by rfl) bt.b_bool nbBool).toB abd_nil))).toB)))))
theorem ok_normal {f : Addr} {fd : FuncData} (bt : Bt mg) (ct : Ct K mg) (hm : mg "normal" = some (.ref f)) (F : Fun K "normal" "normal" (top 4) f fd)  : OkD P w K mg base T "normal" (top 4) 1 ["a", "b", "d"] sp_normal := by
  refine ⟨f, fd, hm, F, okD (g := g_normal) F sc_normal len_normal (fun cdv A outer s H E W F R hr hE hp hx => ?_) law_normal⟩
  have nd := sc_normal.nd
  have hu65 := hu65_of hr
  exact (sds_cons (sd_set (i := 3) nd rfl (Or.inl rfl) (ed_callFun c_gcd (by rfl) bt.f_gcd (abd_cons (ed_callFun c_gcd (by rfl) bt.f_gcd (abd_cons (ed_var 0 (pv 0)).toB (abd_cons (ed_var 1 (pv 1)).toB abd_nil))).toB (abd_cons (ed_var 2 (pv 2)).toB abd_nil))))
      (sds_cons (sd_if (td_cmp o_lt (ed_var 2 (pv 2)).toB ed_int.toB (nomark _)) (sds_one (sd_set (i := 3) nd rfl (Or.inl rfl) (ed_un o_neg (ed_var 3 (pv 3)).toB))) sds_nil)
      (sds_one (sd_ret (ed_tup (ad_cons (ed_bin o_fdivA (ed_var 0 (pv 0)).toB (ed_var 3 (pv 3)).toB) (ad_cons (ed_bin o_fdivA (ed_var 1 (pv 1)).toB (ed_var 3 (pv 3)).toB) (ad_cons (ed_bin o_fdivA (ed_var 2 (pv 2)).toB (ed_var 3 (pv 3)).toB) ad_nil))))))))
theorem ok_pair_sign {f : Addr} {fd : FuncData} (bt : Bt mg) (ct : Ct K mg) (hm : mg "pair_sign" = some (.ref f)) (F : Fun K "pair_sign" "pair_sign" (top 5) f fd)  : OkD P w K mg base T "pair_sign" (top 5) 1 ["a", "b"] sp_pair_sign := by
  refine ⟨f, fd, hm, F, okD (g := g_pair_sign) F sc_pair_sign len_pair_sign (fun cdv A outer s H E W F R hr hE hp hx => ?_) law_pair_sign⟩
  have nd := sc_pair_sign.nd
  have hu65 := hu65_of hr
  exact (sds_cons (sd_set (i := 2) nd rfl (Or.inl rfl) (ed_bin o_add (ed_bin o_mul ed_int.toB (ed_var 0 (pv 0)).toB).toB (ed_var 1 (pv 1)).toB))
      (sds_cons (sd_if (wd_and (td_cmp o_ge (ed_var 2 (pv 2)).toB ed_int.toB (nomark _)) (wd_and1 (td_cmp o_ge (ed_var 1 (pv 1)).toB ed_int.toB (nomark _)))).t (sds_one (sd_ret (ed_if (wd_or (td_cmp o_gt (ed_var 2 (pv 2)).toB ed_int.toB (nomark _)) (wd_or1 (td_cmp o_gt (ed_var 1 (pv 1)).toB ed_int.toB (nomark _)))).t ed_int ed_int))) sds_nil)
      (sds_cons (sd_if (wd_and (td_cmp o_le (ed_var 2 (pv 2)).toB ed_int.toB (nomark _)) (wd_and1 (td_cmp o_le (ed_var 1 (pv 1)).toB ed_int.toB (nomark _)))).t (sds_one (sd_ret (ed_un o_neg ed_int.toB))) sds_nil)
      (sds_cons (sd_set (i := 3) nd rfl (Or.inl rfl) (ed_cmp o_gt (ed_bin o_mul (ed_var 2 (pv 2)).toB (ed_var 2 (pv 2)).toB).toB (ed_bin o_mul (ed_bin o_mul ed_int.toB (ed_var 1 (pv 1)).toB).toB (ed_var 1 (pv 1)).toB).toB (nomark _)))
      (sds_cons (sd_if (td_cmp o_gt (ed_var 2 (pv 2)).toB ed_int.toB (nomark _)) (sds_one (sd_ret (ed_if (td_val (ed_var 3 (pv 3)).toB) ed_int (ed_un o_neg ed_int.toB)))) sds_nil)
      (sds_one (sd_ret (ed_if (td_val (ed_var 3 (pv 3)).toB) (ed_un o_neg ed_int.toB) ed_int))))))))
theorem ok_negative {f : Addr} {fd : FuncData} (bt : Bt mg) (ct : Ct K mg) (hm : mg "negative" = some (.ref f)) (F : Fun K "negative" "negative" (top 7) f fd)  : OkD P w K mg base T "negative" (top 7) 1 ["one"] sp_negative := by
  refine ⟨f, fd, hm, F, okD (g := g_negative) F sc_negative len_negative (fun cdv A outer s H E W F R hr hE hp hx => ?_) law_negative⟩
  have nd := sc_negative.nd
  have hu65 := hu65_of hr
  exact (sds_one (sd_ret (ed_tup (ad_cons (ed_un o_neg (ed_ix (ed_var 0 (pv 0)).toB ed_int.toB).toB) (ad_cons (ed_un o_neg (ed_ix (ed_var 0 (pv 0)).toB ed_int.toB).toB) (ad_cons (ed_ix (ed_var 0 (pv 0)).toB ed_int.toB) ad_nil))))))
theorem ok_times_g {f : Addr} {fd : FuncData} (bt : Bt mg) (ct : Ct K mg) (hm : mg "times_g" = some (.ref f)) (F : Fun K "times_g" "times_g" (top 11) f fd)  : OkD P w K mg base T "times_g" (top 11) 1 ["one"] sp_times_g := by
  refine ⟨f, fd, hm, F, okD (g := g_times_g) F sc_times_g len_times_g (fun cdv A outer s H E W F R hr hE hp hx => ?_) law_times_g⟩
  have nd := sc_times_g.nd
  have hu65 := hu65_of hr
  exact (sds_one (sd_ret (ed_tup (ad_cons (ed_ix (ed_var 0 (pv 0)).toB ed_int.toB) (ad_cons (ed_bin o_add (ed_ix (ed_var 0 (pv 0)).toB ed_int.toB).toB (ed_ix (ed_var 0 (pv 0)).toB ed_int.toB).toB) (ad_cons (ed_ix (ed_var 0 (pv 0)).toB ed_int.toB) ad_nil))))))
theorem ok_times_less {f : Addr} {fd : FuncData} (bt : Bt mg) (ct : Ct K mg) (hm : mg "times_less" = some (.ref f)) (F : Fun K "times_less" "times_less" (top 12) f fd)  : OkD P w K mg base T "times_less" (top 12) 1 ["one"] sp_times_less := by
  refine ⟨f, fd, hm, F, okD (g := g_times_less) F sc_times_less len_times_less (fun cdv A outer s H E W F R hr hE hp hx => ?_) law_times_less⟩
  have nd := sc_times_less.nd
  have hu65 := hu65_of hr
  exact (sds_one (sd_ret (ed_tup (ad_cons (ed_bin o_sub (ed_ix (ed_var 0 (pv 0)).toB ed_int.toB).toB (ed_ix (ed_var 0 (pv 0)).toB ed_int.toB).toB) (ad_cons (ed_ix (ed_var 0 (pv 0)).toB ed_int.toB) (ad_cons (ed_ix (ed_var 0 (pv 0)).toB ed_int.toB) ad_nil))))))
theorem ok_is_whole_number {f : Addr} {fd : FuncData} (bt : Bt mg) (ct : Ct K mg) (hm : mg "is_whole_number" = some (.ref f)) (F : Fun K "is_whole_number" "is_whole_number" (top 14) f fd)  : OkD P w K mg base T "is_whole_number" (top 14) 1 ["one"] sp_is_whole_number := by
  refine ⟨f, fd, hm, F, okD (g := g_is_whole_number) F sc_is_whole_number len_is_whole_number (fun cdv A outer s H E W F R hr hE hp hx => ?_) law_is_whole_number⟩
  have nd := sc_is_whole_number.nd
  have hu65 := hu65_of hr
  exact (sds_one (sd_ret (ed_and (ed_cmp (o_eq hr.units) (ed_bin o_mod (ed_ix (ed_var 0 (pv 0)).toB ed_int.toB).toB (ed_ix (ed_var 0 (pv 0)).toB ed_int.toB).toB).toB ed_int.toB (nomark _)) (ed_one (ed_cmp (o_eq hr.units) (ed_bin o_mod (ed_ix (ed_var 0 (pv 0)).toB ed_int.toB).toB (ed_ix (ed_var 0 (pv 0)).toB ed_int.toB).toB).toB ed_int.toB (nomark _))))))
theorem ok_floor_integer {f : Addr} {fd : FuncData} (bt : Bt mg) (ct : Ct K mg) (hm : mg "floor_integer" = some (.ref f)) (F : Fun K "floor_integer" "floor_integer" (top 15) f fd)  : OkD P w K mg base T "floor_integer" (top 15) 1 ["one"] sp_floor_integer := by
  refine ⟨f, fd, hm, F, okD (g := g_floor_integer) F sc_floor_integer len_floor_integer (fun cdv A outer s H E W F R hr hE hp hx => ?_) law_floor_integer⟩
  have nd := sc_floor_integer.nd
  have hu65 := hu65_of hr
  exact (sds_cons (sd_par3 (i := 1) (j := 2) (l := 3) rfl nd rfl rfl rfl (by decide) (by decide) (by decide) rfl rfl rfl (ad_cons (ed_bin o_add (ed_bin o_mul ed_int.toB (ed_ix (ed_var 0 (pv 0)).toB ed_int.toB).toB).toB (ed_ix (ed_var 0 (pv 0)).toB ed_int.toB).toB) (ad_cons (ed_ix (ed_var 0 (pv 0)).toB ed_int.toB) (ad_cons (ed_bin o_mul ed_int.toB (ed_ix (ed_var 0 (pv 0)).toB ed_int.toB).toB) ad_nil))) (by rfl))
      (sds_cons (sd_set (i := 4) nd rfl (Or.inl rfl) (ed_callFun c_isqrt (by rfl) bt.f_isqrt (abd_cons (ed_bin o_mul (ed_bin o_mul ed_int.toB (ed_var 2 (pv 2)).toB).toB (ed_var 2 (pv 2)).toB).toB abd_nil)))
      (sds_cons (sd_if (td_cmp o_ge (ed_var 2 (pv 2)).toB ed_int.toB (nomark _)) (sds_one (sd_ret (ed_bin o_fdiv (ed_bin o_add (ed_var 1 (pv 1)).toB (ed_var 4 (pv 4)).toB).toB (ed_var 3 (pv 3)).toB))) sds_nil)
      (sds_one (sd_ret (ed_bin o_fdiv (ed_bin o_sub (ed_bin o_sub (ed_var 1 (pv 1)).toB (ed_var 4 (pv 4)).toB).toB ed_int.toB).toB (ed_var 3 (pv 3)).toB))))))
theorem ok_in_order {f : Addr} {fd : FuncData} (bt : Bt mg) (ct : Ct K mg) (hm : mg "in_order" = some (.ref f)) (F : Fun K "in_order" "in_order" (top 18) f fd)  : OkD P w K mg base T "in_order" (top 18) 1 ["r", "s"] sp_in_order := by
  refine ⟨f, fd, hm, F, okD (g := g_in_order) F sc_in_order len_in_order (fun cdv A outer s H E W F R hr hE hp hx => ?_) law_in_order⟩
  have nd := sc_in_order.nd
  have hu65 := hu65_of hr
  exact (sds_one (sd_ret (ed_if (td_cmp o_le (ed_bin o_mod (ed_bin o_sub (ed_var 1 (pv 1)).toB (ed_var 0 (pv 0)).toB).toB ed_int.toB).toB ed_int.toB (nomark _)) (ed_tup (ad_cons (ed_var 0 (pv 0)) (ad_cons (ed_var 1 (pv 1)) ad_nil))) (ed_tup (ad_cons (ed_var 1 (pv 1)) (ad_cons (ed_var 0 (pv 0)) ad_nil))))))
theorem ok_raw_phase {f : Addr} {fd : FuncData} (bt : Bt mg) (ct : Ct K mg) (hm : mg "raw_phase" = some (.ref f)) (F : Fun K "raw_phase" "raw_phase" (top 20) f fd)  : OkD P w K mg base T "raw_phase" (top 20) 1 ["floor", "bar"] sp_raw_phase := by
  refine ⟨f, fd, hm, F, okD (g := g_raw_phase) F sc_raw_phase len_raw_phase (fun cdv A outer s H E W F R hr hE hp hx => ?_) law_raw_phase⟩
  have nd := sc_raw_phase.nd
  have hu65 := hu65_of hr
  exact (sds_cons (sd_setT (is := [2, 3, 4]) rfl (na_cons (pg_name (i := 2) nd rfl (Or.inl rfl)) (na_cons (pg_name (i := 3) nd rfl (Or.inl rfl)) (na_cons (pg_name (i := 4) nd rfl (Or.inl rfl)) na_nil))) (ed_var 1 (pv 1)))
      (sds_cons (sd_setT (is := [5, 6, 7]) rfl (na_cons (pg_name (i := 5) nd rfl (Or.inl rfl)) (na_cons (pg_name (i := 6) nd rfl (Or.inl rfl)) (na_cons (pg_name (i := 7) nd rfl (Or.inl rfl)) na_nil))) (ed_ix (ed_fld ct.fld (ed_var 0 (pv 0)).toB).toB (ed_var 2 (pv 2)).toB))
      (sds_one (sd_ret (ed_tup (ad_cons (ed_bin o_sub (ed_bin o_mul (ed_bin o_add (ed_var 3 (pv 3)).toB (ed_var 4 (pv 4)).toB).toB (ed_var 7 (pv 7)).toB).toB (ed_var 5 (pv 5)).toB) (ad_cons (ed_bin o_sub (ed_bin o_mul (ed_un o_neg (ed_var 3 (pv 3)).toB).toB (ed_var 7 (pv 7)).toB).toB (ed_var 6 (pv 6)).toB) (ad_cons (ed_var 7 (pv 7)) ad_nil))))))))
theorem ok__law_sign {f : Addr} {fd : FuncData} (bt : Bt mg) (ct : Ct K mg) (hm : mg "_law_sign" = some (.ref f)) (F : Fun K "_law_sign" "_law_sign" (top 72) f fd)  : OkD P w K mg base T "_law_sign" (top 72) 1 ["_law_a", "_law_b"] sp__law_sign := by
  refine ⟨f, fd, hm, F, okD (g := g__law_sign) F sc__law_sign len__law_sign (fun cdv A outer s H E W F R hr hE hp hx => ?_) law__law_sign⟩
  have nd := sc__law_sign.nd
  have hu65 := hu65_of hr
  exact (sds_cons (sd_set (i := 2) nd rfl (Or.inl rfl) (ed_bin o_add (ed_bin o_mul ed_int.toB (ed_var 0 (pv 0)).toB).toB (ed_var 1 (pv 1)).toB))
      (sds_cons (sd_if (wd_and (td_cmp o_ge (ed_var 2 (pv 2)).toB ed_int.toB (nomark _)) (wd_and1 (td_cmp o_ge (ed_var 1 (pv 1)).toB ed_int.toB (nomark _)))).t (sds_one (sd_ret (ed_callTy (c_intB ct.dig) (by rfl) bt.b_int nbInt (abd_cons (ed_cmp o_gt (ed_bin o_add (ed_var 2 (pv 2)).toB (ed_var 1 (pv 1)).toB).toB ed_int.toB (nomark _)).toB abd_nil)))) sds_nil)
      (sds_cons (sd_if (wd_and (td_cmp o_le (ed_var 2 (pv 2)).toB ed_int.toB (nomark _)) (wd_and1 (td_cmp o_le (ed_var 1 (pv 1)).toB ed_int.toB (nomark _)))).t (sds_one (sd_ret (ed_un o_neg ed_int.toB))) sds_nil)
      (sds_one (sd_ret (ed_bin o_mul (ed_if (td_cmp o_gt (ed_var 2 (pv 2)).toB ed_int.toB (nomark _)) ed_int (ed_un o_neg ed_int.toB)).toB (ed_if (td_cmp o_gt (ed_bin o_mul (ed_var 2 (pv 2)).toB (ed_var 2 (pv 2)).toB).toB (ed_bin o_mul (ed_bin o_mul ed_int.toB (ed_var 1 (pv 1)).toB).toB (ed_var 1 (pv 1)).toB).toB (nomark _)) ed_int (ed_un o_neg ed_int.toB)).toB))))))
theorem ok__law_root {f : Addr} {fd : FuncData} (bt : Bt mg) (ct : Ct K mg) (hm : mg "_law_root" = some (.ref f)) (F : Fun K "_law_root" "_law_root" (top 74) f fd)  : OkD P w K mg base T "_law_root" (top 74) 1 ["_law_n"] sp__law_root := by
  refine ⟨f, fd, hm, F, okD (g := g__law_root) F sc__law_root len__law_root (fun cdv A outer s H E W F R hr hE hp hx => ?_) law__law_root⟩
  have nd := sc__law_root.nd
  have hu65 := hu65_of hr
  exact (sds_cons (sd_set (i := 1) nd rfl (Or.inl rfl) (ed_bin o_shl ed_int.toB (ed_bin o_add (ed_bin o_fdiv (ed_bits (ed_var 0 (pv 0)).toB).toB ed_int.toB).toB ed_int.toB).toB))
      (sds_cons (sd_for hp rfl (pid_rng1 (by rfl) bt.b_range (ad_cons ed_int ad_nil)) (gd_name (pg_name (i := 2) nd rfl (Or.inl rfl))) (sds_cons (sd_set (i := 3) nd rfl (Or.inl rfl) (ed_bin o_fdiv (ed_bin o_add (ed_var 1 (pv 1)).toB (ed_bin o_fdiv (ed_var 0 (pv 0)).toB (ed_var 1 (pv 1)).toB).toB).toB ed_int.toB))
      (sds_cons (sd_if (td_cmp o_ge (ed_var 3 (pv 3)).toB (ed_var 1 (pv 1)).toB (nomark _)) (sds_one (sd_ret (ed_var 1 (pv 1)))) sds_nil)
      (sds_one (sd_set (i := 1) nd rfl (Or.inl rfl) (ed_callB (c_max2 rfl) (by rfl) bt.b_max nbMax (abd_cons ed_int.toB (abd_cons (ed_var 3 (pv 3)).toB abd_nil))))))))
      (sds_one (sd_ret (ed_var 1 (pv 1))))))
theorem ok__law_common {f : Addr} {fd : FuncData} (bt : Bt mg) (ct : Ct K mg) (hm : mg "_law_common" = some (.ref f)) (F : Fun K "_law_common" "_law_common" (top 76) f fd)  : OkD P w K mg base T "_law_common" (top 76) 1 ["_law_one", "_law_other"] sp__law_common := by
  refine ⟨f, fd, hm, F, okD (g := g__law_common) F sc__law_common len__law_common (fun cdv A outer s H E W F R hr hE hp hx => ?_) law__law_common⟩
  have nd := sc__law_common.nd
  have hu65 := hu65_of hr
  exact (sds_cons (sd_for hp rfl (pid_rng1 (by rfl) bt.b_range (ad_cons ed_int ad_nil)) (gd_name (pg_name (i := 2) nd rfl (Or.inl rfl))) (sds_cons (sd_if (td_cmp (o_eq hr.units) (ed_var 1 (pv 1)).toB ed_int.toB (nomark _)) (sds_one (sd_ret (ed_var 0 (pv 0)))) sds_nil)
      (sds_one (sd_par2 (i := 0) (j := 1) rfl nd rfl rfl (by decide) rfl rfl (ad_cons (ed_var 1 (pv 1)) (ad_cons (ed_bin o_mod (ed_callTy (c_intB ct.dig) (by rfl) bt.b_int nbInt (abd_cons (ed_var 0 (pv 0)).toB abd_nil)).toB (ed_var 1 (pv 1)).toB) ad_nil)) (by rfl)))))
      (sds_one (sd_ret (ed_var 0 (pv 0)))))
theorem ok__law_keys {f : Addr} {fd : FuncData} (bt : Bt mg) (ct : Ct K mg) (hm : mg "_law_keys" = some (.ref f)) (F : Fun K "_law_keys" "_law_keys" (top 78) f fd)  : OkD P w K mg base T "_law_keys" (top 78) 1 ["_law_r", "_law_one", "_law_other"] sp__law_keys := by
  refine ⟨f, fd, hm, F, okD (g := g__law_keys) F sc__law_keys len__law_keys (fun cdv A outer s H E W F R hr hE hp hx => ?_) law__law_keys⟩
  have nd := sc__law_keys.nd
  have hu65 := hu65_of hr
  exact (sds_cons (sd_setL (i := 3) nd rfl (Or.inl rfl) (fd_bin o_repF (fd_lst (ad_cons (ed_var 1 (pv 1)) ad_nil)).toE.toB ed_int.toB))
      (sds_cons (sd_setI (pv 3) (ed_var 2 (pv 2)) (ed_bin o_mod (ed_callTy (c_intB ct.dig) (by rfl) bt.b_int nbInt (abd_cons (ed_bin o_add (ed_var 0 (pv 0)).toB ed_int.toB).toB abd_nil)).toB ed_int.toB).toB)
      (sds_cons (sd_for hp rfl (pid_rng1 (by rfl) bt.b_range (ad_cons ed_int ad_nil)) (gd_name (pg_name (i := 4) nd rfl (Or.inl rfl))) (sds_cons (sd_par2 (i := 5) (j := 6) rfl nd rfl rfl (by decide) rfl rfl (ad_cons (ed_ix (bd_var 3 (pv 3)) (ed_bin o_mod (ed_callTy (c_intB ct.dig) (by rfl) bt.b_int nbInt (abd_cons (ed_bin o_add (ed_var 0 (pv 0)).toB (ed_var 4 (pv 4)).toB).toB abd_nil)).toB ed_int.toB).toB) (ad_cons (ed_ix (bd_var 3 (pv 3)) (ed_bin o_mod (ed_callTy (c_intB ct.dig) (by rfl) bt.b_int nbInt (abd_cons (ed_bin o_add (ed_bin o_add (ed_var 0 (pv 0)).toB (ed_var 4 (pv 4)).toB).toB ed_int.toB).toB abd_nil)).toB ed_int.toB).toB) ad_nil)) (by rfl))
      (sds_one (sd_setI (pv 3) (ed_tup (ad_cons (ed_bin o_sub (ed_un o_neg (ed_ix (ed_var 6 (pv 6)).toB ed_int.toB).toB).toB (ed_ix (ed_var 5 (pv 5)).toB ed_int.toB).toB) (ad_cons (ed_bin o_sub (ed_bin o_sub (ed_un o_neg (ed_ix (ed_var 6 (pv 6)).toB ed_int.toB).toB).toB (ed_ix (ed_var 6 (pv 6)).toB ed_int.toB).toB).toB (ed_ix (ed_var 5 (pv 5)).toB ed_int.toB).toB) ad_nil))) (ed_bin o_mod (ed_callTy (c_intB ct.dig) (by rfl) bt.b_int nbInt (abd_cons (ed_bin o_add (ed_bin o_add (ed_var 0 (pv 0)).toB (ed_var 4 (pv 4)).toB).toB ed_int.toB).toB abd_nil)).toB ed_int.toB).toB))))
      (sds_one (sd_ret (ed_callTy c_tuple (by rfl) bt.b_tuple nbTuple (abd_cons (bd_var 3 (pv 3)) abd_nil)))))))
theorem ok__law_whole {f : Addr} {fd : FuncData} (bt : Bt mg) (ct : Ct K mg) (hm : mg "_law_whole" = some (.ref f)) (F : Fun K "_law_whole" "_law_whole" (top 79) f fd)  : OkD P w K mg base T "_law_whole" (top 79) 1 ["_law_d", "_law_keys_here"] sp__law_whole := by
  refine ⟨f, fd, hm, F, okD (g := g__law_whole) F sc__law_whole len__law_whole (fun cdv A outer s H E W F R hr hE hp hx => ?_) law__law_whole⟩
  have nd := sc__law_whole.nd
  have hu65 := hu65_of hr
  exact (sds_one (sd_ret (fd_lc (own := [("_law_r", 2)]) rfl nd (pid_rng1 (by rfl) bt.b_range (ad_cons ed_int ad_nil)) (blkOk_by (own := [("_law_r", 2)]) (N := ["_law_d", "_law_keys_here", "_law_r"]) (sc := defScope (top 79)) (by decide +kernel)) (ct_name (by decide)) (fun _ _ _ _ _ => pg_name (i := 2) nd rfl (Or.inl rfl)) (fun _ _ _ _ _ => (tds_one (wd_and (td_cmp (o_eq hr.units) (ed_bin o_mod (ed_callTy (c_intB ct.dig) (by rfl) bt.b_int nbInt (abd_cons (ed_ix (ed_ix (ed_var 1 (pv 1)).toB (ed_var 2 (pv 2)).toB).toB ed_int.toB).toB abd_nil)).toB (ed_var 0 (pv 0)).toB).toB ed_int.toB (nomark _)) (wd_and1 (td_cmp (o_eq hr.units) (ed_bin o_mod (ed_callTy (c_intB ct.dig) (by rfl) bt.b_int nbInt (abd_cons (ed_ix (ed_ix (ed_var 1 (pv 1)).toB (ed_var 2 (pv 2)).toB).toB ed_int.toB).toB abd_nil)).toB (ed_var 0 (pv 0)).toB).toB ed_int.toB (nomark _)))).t)) (fun _ _ _ _ _ => (ed_var 2 (pv 2)))).toE))
theorem ok__law_phase {f : Addr} {fd : FuncData} (bt : Bt mg) (ct : Ct K mg) (hm : mg "_law_phase" = some (.ref f)) (F : Fun K "_law_phase" "_law_phase" (top 83) f fd)  : OkD P w K mg base T "_law_phase" (top 83) 1 ["_law_world_here", "_law_j", "_law_number_here", "_law_x"] sp__law_phase := by
  refine ⟨f, fd, hm, F, okD (g := g__law_phase) F sc__law_phase len__law_phase (fun cdv A outer s H E W F R hr hE hp hx => ?_) law__law_phase⟩
  have nd := sc__law_phase.nd
  have hu65 := hu65_of hr
  exact (sds_cons (sd_setT (is := [4, 5, 6]) rfl (na_cons (pg_name (i := 4) nd rfl (Or.inl rfl)) (na_cons (pg_name (i := 5) nd rfl (Or.inl rfl)) (na_cons (pg_name (i := 6) nd rfl (Or.inl rfl)) na_nil))) (ed_var 0 (pv 0)))
      (sds_one (sd_ret (ed_tup (ad_cons (ed_bin o_sub (ed_bin o_mul (ed_var 4 (pv 4)).toB (ed_var 2 (pv 2)).toB).toB (ed_ix (ed_ix (ed_var 5 (pv 5)).toB (ed_var 1 (pv 1)).toB).toB ed_int.toB).toB) (ad_cons (ed_bin o_sub (ed_bin o_mul (ed_un o_neg (ed_var 4 (pv 4)).toB).toB (ed_var 3 (pv 3)).toB).toB (ed_ix (ed_ix (ed_var 5 (pv 5)).toB (ed_var 1 (pv 1)).toB).toB ed_int.toB).toB) ad_nil))))))
theorem ok__law_bar_height {f : Addr} {fd : FuncData} (bt : Bt mg) (ct : Ct K mg) (hm : mg "_law_bar_height" = some (.ref f)) (F : Fun K "_law_bar_height" "_law_bar_height" (top 85) f fd)  : OkD P w K mg base T "_law_bar_height" (top 85) 1 ["_law_bar_here"] sp__law_bar_height := by
  refine ⟨f, fd, hm, F, okD (g := g__law_bar_height) F sc__law_bar_height len__law_bar_height (fun cdv A outer s H E W F R hr hE hp hx => ?_) law__law_bar_height⟩
  have nd := sc__law_bar_height.nd
  have hu65 := hu65_of hr
  exact (sds_cons (sd_setT (is := [1, 2, 3]) rfl (na_cons (pg_name (i := 1) nd rfl (Or.inl rfl)) (na_cons (pg_name (i := 2) nd rfl (Or.inl rfl)) (na_cons (pg_name (i := 3) nd rfl (Or.inl rfl)) na_nil))) (ed_var 0 (pv 0)))
      (sds_one (sd_ret (ed_tup (ad_cons (ed_bin o_sub (ed_bin o_sub (ed_bin o_mul ed_int.toB (ed_var 2 (pv 2)).toB).toB (ed_bin o_mul ed_int.toB (ed_var 3 (pv 3)).toB).toB).toB ed_int.toB) (ad_cons (ed_bin o_sub (ed_bin o_add (ed_bin o_mul ed_int.toB (ed_var 2 (pv 2)).toB).toB (ed_bin o_mul ed_int.toB (ed_var 3 (pv 3)).toB).toB).toB ed_int.toB) ad_nil))))))
theorem ok__law_same {f : Addr} {fd : FuncData} (bt : Bt mg) (ct : Ct K mg) (hm : mg "_law_same" = some (.ref f)) (F : Fun K "_law_same" "_law_same" (top 86) f fd)  : OkG P w K mg base T "_law_same" (top 86) 1 ["_law_told_here", "_law_due"] sp__law_same := by
  refine ⟨f, fd, hm, F, okG (g := g__law_same) F sc__law_same len__law_same (fun cdv A outer s H E W F R hG hr hE hp hx => ?_) law__law_same⟩
  have nd := sc__law_same.nd
  have hu65 := hu65_of hr
  exact (sds_one (sd_ret (ed_cmp (o_eq hr.units) (ed_callB (c_reprB ct.dig hG hu65) (by rfl) bt.b_repr nbRepr (abd_cons (ed_var 0 (pv 0)).toB abd_nil)).toB (ed_callB (c_reprB ct.dig hG hu65) (by rfl) bt.b_repr nbRepr (abd_cons (ed_var 1 (pv 1)).toB abd_nil)).toB (nomark _))))
theorem ok_is_number {f : Addr} {fd : FuncData} (bt : Bt mg) (ct : Ct K mg) (hm : mg "is_number" = some (.ref f)) (F : Fun K "is_number" "is_number" (top 3) f fd) (O_is_integer : OkD P w K mg base T "is_integer" (top 2) 1 ["thing"] sp_is_integer) : OkD P w K mg base T "is_number" (top 3) 2 ["thing"] sp_is_number := by
  refine ⟨f, fd, hm, F, okD (g := g_is_number) F sc_is_number len_is_number (fun cdv A outer s H E W F R hr hE hp hx => ?_) law_is_number⟩
  have nd := sc_is_number.nd
  have hu65 := hu65_of hr
  exact (sds_cons (sd_if (wd_or (td_not (td_val (ed_callB (c_isiX ct.ob) (by rfl) bt.b_isinstance nbIsi (abd_cons (ed_var 0 (pv 0)).toB (abd_cons (ed_ty (by rfl) bt.b_tuple nbTuple).toB abd_nil))).toB)) (wd_or1 (td_cmp (o_ne hr.units) (ed_callB c_len (by rfl) bt.b_len nbLen (abd_cons (ed_var 0 (pv 0)).toB abd_nil)).toB ed_int.toB (nomark _)))).t (sds_one (sd_ret ed_bl)) sds_nil)
      (sds_one (sd_ret (ed_and (ed_o (B := ⟨⟨W, T⟩, F, H⟩) (k := 1) O_is_integer bp_is_integer (hr.mono (by decide)) hx hE (ad_cons (ed_ix (ed_var 0 (pv 0)).toB ed_int.toB) ad_nil)) (ed_and (ed_o (B := ⟨⟨W, T⟩, F, H⟩) (k := 1) O_is_integer bp_is_integer (hr.mono (by decide)) hx hE (ad_cons (ed_ix (ed_var 0 (pv 0)).toB ed_int.toB) ad_nil)) (ed_and (ed_o (B := ⟨⟨W, T⟩, F, H⟩) (k := 1) O_is_integer bp_is_integer (hr.mono (by decide)) hx hE (ad_cons (ed_ix (ed_var 0 (pv 0)).toB ed_int.toB) ad_nil)) (ed_one (ed_cmp o_ge (ed_ix (ed_var 0 (pv 0)).toB ed_int.toB).toB ed_int.toB (nomark _)))))))))
theorem ok_compared {f : Addr} {fd : FuncData} (bt : Bt mg) (ct : Ct K mg) (hm : mg "compared" = some (.ref f)) (F : Fun K "compared" "compared" (top 6) f fd) (O_pair_sign : OkD P w K mg base T "pair_sign" (top 5) 1 ["a", "b"] sp_pair_sign) : OkD P w K mg base T "compared" (top 6) 2 ["one", "other"] sp_compared := by
  refine ⟨f, fd, hm, F, okD (g := g_compared) F sc_compared len_compared (fun cdv A outer s H E W F R hr hE hp hx => ?_) law_compared⟩
  have nd := sc_compared.nd
  have hu65 := hu65_of hr
  exact (sds_one (sd_ret (ed_o (B := ⟨⟨W, T⟩, F, H⟩) (k := 1) O_pair_sign bp_pair_sign (hr.mono (by decide)) hx hE (ad_cons (ed_bin o_sub (ed_bin o_mul (ed_ix (ed_var 0 (pv 0)).toB ed_int.toB).toB (ed_ix (ed_var 1 (pv 1)).toB ed_int.toB).toB).toB (ed_bin o_mul (ed_ix (ed_var 1 (pv 1)).toB ed_int.toB).toB (ed_ix (ed_var 0 (pv 0)).toB ed_int.toB).toB).toB) (ad_cons (ed_bin o_sub (ed_bin o_mul (ed_ix (ed_var 0 (pv 0)).toB ed_int.toB).toB (ed_ix (ed_var 1 (pv 1)).toB ed_int.toB).toB).toB (ed_bin o_mul (ed_ix (ed_var 1 (pv 1)).toB ed_int.toB).toB (ed_ix (ed_var 0 (pv 0)).toB ed_int.toB).toB).toB) ad_nil)))))
theorem ok_added {f : Addr} {fd : FuncData} (bt : Bt mg) (ct : Ct K mg) (hm : mg "added" = some (.ref f)) (F : Fun K "added" "added" (top 8) f fd) (O_normal : OkD P w K mg base T "normal" (top 4) 1 ["a", "b", "d"] sp_normal) : OkD P w K mg base T "added" (top 8) 2 ["one", "other"] sp_added := by
  refine ⟨f, fd, hm, F, okD (g := g_added) F sc_added len_added (fun cdv A outer s H E W F R hr hE hp hx => ?_) law_added⟩
  have nd := sc_added.nd
  have hu65 := hu65_of hr
  exact (sds_cons (sd_set (i := 2) nd rfl (Or.inl rfl) (ed_bin o_mul (ed_ix (ed_var 0 (pv 0)).toB ed_int.toB).toB (ed_ix (ed_var 1 (pv 1)).toB ed_int.toB).toB))
      (sds_one (sd_ret (ed_o (B := ⟨⟨W, T⟩, F, H⟩) (k := 1) O_normal bp_normal (hr.mono (by decide)) hx hE (ad_cons (ed_bin o_add (ed_bin o_mul (ed_ix (ed_var 0 (pv 0)).toB ed_int.toB).toB (ed_ix (ed_var 1 (pv 1)).toB ed_int.toB).toB).toB (ed_bin o_mul (ed_ix (ed_var 1 (pv 1)).toB ed_int.toB).toB (ed_ix (ed_var 0 (pv 0)).toB ed_int.toB).toB).toB) (ad_cons (ed_bin o_add (ed_bin o_mul (ed_ix (ed_var 0 (pv 0)).toB ed_int.toB).toB (ed_ix (ed_var 1 (pv 1)).toB ed_int.toB).toB).toB (ed_bin o_mul (ed_ix (ed_var 1 (pv 1)).toB ed_int.toB).toB (ed_ix (ed_var 0 (pv 0)).toB ed_int.toB).toB).toB) (ad_cons (ed_var 2 (pv 2)) ad_nil)))))))
theorem ok_multiplied {f : Addr} {fd : FuncData} (bt : Bt mg) (ct : Ct K mg) (hm : mg "multiplied" = some (.ref f)) (F : Fun K "multiplied" "multiplied" (top 10) f fd) (O_normal : OkD P w K mg base T "normal" (top 4) 1 ["a", "b", "d"] sp_normal) : OkD P w K mg base T "multiplied" (top 10) 2 ["one", "other"] sp_multiplied := by
  refine ⟨f, fd, hm, F, okD (g := g_multiplied) F sc_multiplied len_multiplied (fun cdv A outer s H E W F R hr hE hp hx => ?_) law_multiplied⟩
  have nd := sc_multiplied.nd
  have hu65 := hu65_of hr
  exact (sds_cons (sd_setT (is := [2, 3, 4, 5]) rfl (na_cons (pg_name (i := 2) nd rfl (Or.inl rfl)) (na_cons (pg_name (i := 3) nd rfl (Or.inl rfl)) (na_cons (pg_name (i := 4) nd rfl (Or.inl rfl)) (na_cons (pg_name (i := 5) nd rfl (Or.inl rfl)) na_nil)))) (ed_tup (ad_cons (ed_ix (ed_var 0 (pv 0)).toB ed_int.toB) (ad_cons (ed_ix (ed_var 0 (pv 0)).toB ed_int.toB) (ad_cons (ed_ix (ed_var 1 (pv 1)).toB ed_int.toB) (ad_cons (ed_ix (ed_var 1 (pv 1)).toB ed_int.toB) ad_nil))))))
      (sds_one (sd_ret (ed_o (B := ⟨⟨W, T⟩, F, H⟩) (k := 1) O_normal bp_normal (hr.mono (by decide)) hx hE (ad_cons (ed_bin o_add (ed_bin o_mul (ed_var 2 (pv 2)).toB (ed_var 4 (pv 4)).toB).toB (ed_bin o_mul (ed_var 3 (pv 3)).toB (ed_var 5 (pv 5)).toB).toB) (ad_cons (ed_bin o_add (ed_bin o_add (ed_bin o_mul (ed_var 2 (pv 2)).toB (ed_var 5 (pv 5)).toB).toB (ed_bin o_mul (ed_var 3 (pv 3)).toB (ed_var 4 (pv 4)).toB).toB).toB (ed_bin o_mul (ed_var 3 (pv 3)).toB (ed_var 5 (pv 5)).toB).toB) (ad_cons (ed_bin o_mul (ed_ix (ed_var 0 (pv 0)).toB ed_int.toB).toB (ed_ix (ed_var 1 (pv 1)).toB ed_int.toB).toB) ad_nil)))))))
theorem ok_is_direction {f : Addr} {fd : FuncData} (bt : Bt mg) (ct : Ct K mg) (hm : mg "is_direction" = some (.ref f)) (F : Fun K "is_direction" "is_direction" (top 17) f fd) (O_is_integer : OkD P w K mg base T "is_integer" (top 2) 1 ["thing"] sp_is_integer) : OkD P w K mg base T "is_direction" (top 17) 2 ["thing"] sp_is_direction := by
  refine ⟨f, fd, hm, F, okD (g := g_is_direction) F sc_is_direction len_is_direction (fun cdv A outer s H E W F R hr hE hp hx => ?_) law_is_direction⟩
  have nd := sc_is_direction.nd
  have hu65 := hu65_of hr
  exact (sds_one (sd_ret (ed_and (ed_o (B := ⟨⟨W, T⟩, F, H⟩) (k := 1) O_is_integer bp_is_integer (hr.mono (by decide)) hx hE (ad_cons (ed_var 0 (pv 0)) ad_nil)) (ed_one (ed_chain o_le o_le ed_int.toB (ed_var 0 (pv 0)).toB ed_int.toB)))))
theorem ok_phase_sign {f : Addr} {fd : FuncData} (bt : Bt mg) (ct : Ct K mg) (hm : mg "phase_sign" = some (.ref f)) (F : Fun K "phase_sign" "phase_sign" (top 21) f fd) (O_raw_phase : OkD P w K mg base T "raw_phase" (top 20) 1 ["floor", "bar"] sp_raw_phase) (O_pair_sign : OkD P w K mg base T "pair_sign" (top 5) 1 ["a", "b"] sp_pair_sign) : OkD P w K mg base T "phase_sign" (top 21) 2 ["floor", "bar", "a", "b"] sp_phase_sign := by
  refine ⟨f, fd, hm, F, okD (g := g_phase_sign) F sc_phase_sign len_phase_sign (fun cdv A outer s H E W F R hr hE hp hx => ?_) law_phase_sign⟩
  have nd := sc_phase_sign.nd
  have hu65 := hu65_of hr
  exact (sds_cons (sd_setT (is := [4, 5, 6]) rfl (na_cons (pg_name (i := 4) nd rfl (Or.inl rfl)) (na_cons (pg_name (i := 5) nd rfl (Or.inl rfl)) (na_cons (pg_name (i := 6) nd rfl (Or.inl rfl)) na_nil))) (ed_o (B := ⟨⟨W, T⟩, F, H⟩) (k := 1) O_raw_phase bp_raw_phase (hr.mono (by decide)) hx hE (ad_cons (ed_var 0 (pv 0)) (ad_cons (ed_var 1 (pv 1)) ad_nil))))
      (sds_cons (sd_set (i := 7) nd rfl (Or.inl rfl) (ed_o (B := ⟨⟨W, T⟩, F, H⟩) (k := 1) O_pair_sign bp_pair_sign (hr.mono (by decide)) hx hE (ad_cons (ed_bin o_sub (ed_var 4 (pv 4)).toB (ed_bin o_mul (ed_var 2 (pv 2)).toB (ed_var 6 (pv 6)).toB).toB) (ad_cons (ed_bin o_sub (ed_var 5 (pv 5)).toB (ed_bin o_mul (ed_var 3 (pv 3)).toB (ed_var 6 (pv 6)).toB).toB) ad_nil))))
      (sds_one (sd_ret (ed_if (td_cmp (o_ne hr.units) (ed_var 7 (pv 7)).toB ed_int.toB (nomark _)) (ed_var 7 (pv 7)) (ed_un o_neg (ed_ix (ed_fld ct.fld (ed_var 0 (pv 0)).toB).toB (ed_ix (ed_var 1 (pv 1)).toB ed_int.toB).toB).toB))))))
theorem ok_height_by {f : Addr} {fd : FuncData} (bt : Bt mg) (ct : Ct K mg) (hm : mg "height_by" = some (.ref f)) (F : Fun K "height_by" "height_by" (top 26) f fd) (O_normal : OkD P w K mg base T "normal" (top 4) 1 ["a", "b", "d"] sp_normal) : OkD P w K mg base T "height_by" (top 26) 2 ["bar"] sp_height_by := by
  refine ⟨f, fd, hm, F, okD (g := g_height_by) F sc_height_by len_height_by (fun cdv A outer s H E W F R hr hE hp hx => ?_) law_height_by⟩
  have nd := sc_height_by.nd
  have hu65 := hu65_of hr
  exact (sds_cons (sd_par2 (i := 1) (j := 2) rfl nd rfl rfl (by decide) rfl rfl (ad_cons (ed_ix (ed_var 0 (pv 0)).toB ed_int.toB) (ad_cons (ed_ix (ed_var 0 (pv 0)).toB ed_int.toB) ad_nil)) (by rfl))
      (sds_one (sd_ret (ed_o (B := ⟨⟨W, T⟩, F, H⟩) (k := 1) O_normal bp_normal (hr.mono (by decide)) hx hE (ad_cons (ed_bin o_sub (ed_bin o_sub (ed_bin o_mul ed_int.toB (ed_var 1 (pv 1)).toB).toB (ed_bin o_mul ed_int.toB (ed_var 2 (pv 2)).toB).toB).toB ed_int.toB) (ad_cons (ed_bin o_sub (ed_bin o_add (ed_bin o_mul ed_int.toB (ed_var 1 (pv 1)).toB).toB (ed_bin o_mul ed_int.toB (ed_var 2 (pv 2)).toB).toB).toB ed_int.toB) (ad_cons ed_int ad_nil)))))))
theorem ok_whole_directions {f : Addr} {fd : FuncData} (bt : Bt mg) (ct : Ct K mg) (hm : mg "whole_directions" = some (.ref f)) (F : Fun K "whole_directions" "whole_directions" (top 49) f fd) (O_is_whole_number : OkD P w K mg base T "is_whole_number" (top 14) 1 ["one"] sp_is_whole_number) : OkD P w K mg base T "whole_directions" (top 49) 2 ["keys"] sp_whole_directions := by
  refine ⟨f, fd, hm, F, okD (g := g_whole_directions) F sc_whole_directions len_whole_directions (fun cdv A outer s H E W F R hr hE hp hx => ?_) law_whole_directions⟩
  have nd := sc_whole_directions.nd
  have hu65 := hu65_of hr
  exact (sds_one (sd_ret (ed_callTy c_tuple (by rfl) bt.b_tuple nbTuple (abd_cons (fd_lc (own := [("r", 1)]) rfl nd (pid_rng1 (by rfl) bt.b_range (ad_cons ed_int ad_nil)) (blkOk_by (own := [("r", 1)]) (N := ["keys", "r"]) (sc := defScope (top 49)) (by decide +kernel)) (ct_name (by decide)) (fun _ _ _ _ _ => pg_name (i := 1) nd rfl (Or.inl rfl)) (fun _ _ _ _ _ => (tds_one (td_val (ed_o (B := ⟨⟨W, T⟩, F, H⟩) (k := 1) O_is_whole_number bp_is_whole_number (hr.mono (by decide)) passL FinE.none (ad_cons (ed_ix (ed_var 0 (pv 0)).toB (ed_var 1 (pv 1)).toB) ad_nil)).toB))) (fun _ _ _ _ _ => (ed_var 1 (pv 1)))).toE.toB abd_nil))))
theorem ok__law_pick {f : Addr} {fd : FuncData} (bt : Bt mg) (ct : Ct K mg) (hm : mg "_law_pick" = some (.ref f)) (F : Fun K "_law_pick" "_law_pick" (top 70) f fd) (O__law_draw : OkD P w K mg base T "_law_draw" (top 69) 1 ["_law_deck_here", "_law_many"] spDraw) : OkD P w K mg base T "_law_pick" (top 70) 2 ["_law_deck_here", "_law_some"] sp__law_pick := by
  refine ⟨f, fd, hm, F, okD (g := g__law_pick) F sc__law_pick len__law_pick (fun cdv A outer s H E W F R hr hE hp hx => ?_) law__law_pick⟩
  have nd := sc__law_pick.nd
  have hu65 := hu65_of hr
  exact (sds_one (sd_ret (ed_ix (ed_var 1 (pv 1)).toB (ed_o (B := ⟨⟨W, T⟩, F, H⟩) (k := 1) O__law_draw bp__law_draw (hr.mono (by decide)) hx hE (ad_cons (ed_var 0 (pv 0)) (ad_cons (ed_callB c_len (by rfl) bt.b_len nbLen (abd_cons (ed_var 1 (pv 1)).toB abd_nil)) ad_nil))).toB)))
theorem ok__law_number {f : Addr} {fd : FuncData} (bt : Bt mg) (ct : Ct K mg) (hm : mg "_law_number" = some (.ref f)) (F : Fun K "_law_number" "_law_number" (top 71) f fd) (O__law_draw : OkD P w K mg base T "_law_draw" (top 69) 1 ["_law_deck_here", "_law_many"] spDraw) : OkD P w K mg base T "_law_number" (top 71) 2 ["_law_deck_here"] sp__law_number := by
  refine ⟨f, fd, hm, F, okD (g := g__law_number) F sc__law_number len__law_number (fun cdv A outer s H E W F R hr hE hp hx => ?_) law__law_number⟩
  have nd := sc__law_number.nd
  have hu65 := hu65_of hr
  exact (sds_cons (sd_set (i := 1) nd rfl (Or.inl rfl) (ed_o (B := ⟨⟨W, T⟩, F, H⟩) (k := 1) O__law_draw bp__law_draw (hr.mono (by decide)) hx hE (ad_cons (ed_var 0 (pv 0)) (ad_cons ed_int ad_nil))))
      (sds_cons (sd_if (td_cmp o_lt (ed_var 1 (pv 1)).toB ed_int.toB (nomark _)) (sds_one (sd_ret (ed_bin o_sub (ed_o (B := ⟨⟨W, T⟩, F, H⟩) (k := 1) O__law_draw bp__law_draw (hr.mono (by decide)) hx hE (ad_cons (ed_var 0 (pv 0)) (ad_cons ed_int ad_nil))).toB ed_int.toB))) sds_nil)
      (sds_cons (sd_par2 (i := 2) (j := 3) rfl nd rfl rfl (by decide) rfl rfl (ad_cons ed_int (ad_cons (ed_bin o_sub ed_int.toB (ed_bin o_mul ed_int.toB (ed_o (B := ⟨⟨W, T⟩, F, H⟩) (k := 1) O__law_draw bp__law_draw (hr.mono (by decide)) hx hE (ad_cons (ed_var 0 (pv 0)) (ad_cons ed_int ad_nil))).toB).toB) ad_nil)) (by rfl))
      (sds_cons (sd_for hp rfl (pid_rng1 (by rfl) bt.b_range (ad_cons (ed_if (td_cmp (o_eq hr.units) (ed_var 1 (pv 1)).toB ed_int.toB (nomark _)) ed_int ed_int) ad_nil)) (gd_name (pg_name (i := 4) nd rfl (Or.inl rfl))) (sds_one (sd_set (i := 2) nd rfl (Or.inl rfl) (ed_bin o_add (ed_bin o_mul (ed_var 2 (pv 2)).toB ed_int.toB).toB (ed_o (B := ⟨⟨W, T⟩, F, H⟩) (k := 1) O__law_draw bp__law_draw (hr.mono (by decide)) hx hE (ad_cons (ed_var 0 (pv 0)) (ad_cons ed_int ad_nil))).toB))))
      (sds_one (sd_ret (ed_bin o_mul (ed_var 3 (pv 3)).toB (ed_var 2 (pv 2)).toB)))))))
theorem ok__law_tie {f : Addr} {fd : FuncData} (bt : Bt mg) (ct : Ct K mg) (hm : mg "_law_tie" = some (.ref f)) (F : Fun K "_law_tie" "_law_tie" (top 73) f fd) (O__law_sign : OkD P w K mg base T "_law_sign" (top 72) 1 ["_law_a", "_law_b"] sp__law_sign) : OkD P w K mg base T "_law_tie" (top 73) 2 ["_law_a", "_law_b", "_law_side"] sp__law_tie := by
  refine ⟨f, fd, hm, F, okD (g := g__law_tie) F sc__law_tie len__law_tie (fun cdv A outer s H E W F R hr hE hp hx => ?_) law__law_tie⟩
  have nd := sc__law_tie.nd
  have hu65 := hu65_of hr
  exact (sds_cons (sd_set (i := 3) nd rfl (Or.inl rfl) (ed_o (B := ⟨⟨W, T⟩, F, H⟩) (k := 1) O__law_sign bp__law_sign (hr.mono (by decide)) hx hE (ad_cons (ed_var 0 (pv 0)) (ad_cons (ed_var 1 (pv 1)) ad_nil))))
      (sds_one (sd_ret (ed_if (td_cmp (o_eq hr.units) (ed_var 3 (pv 3)).toB ed_int.toB (nomark _)) (ed_un o_neg (ed_var 2 (pv 2)).toB) (ed_var 3 (pv 3))))))
theorem ok__law_under {f : Addr} {fd : FuncData} (bt : Bt mg) (ct : Ct K mg) (hm : mg "_law_under" = some (.ref f)) (F : Fun K "_law_under" "_law_under" (top 75) f fd) (O__law_root : OkD P w K mg base T "_law_root" (top 74) 1 ["_law_n"] sp__law_root) : OkD P w K mg base T "_law_under" (top 75) 2 ["_law_a", "_law_b", "_law_d"] sp__law_under := by
  refine ⟨f, fd, hm, F, okD (g := g__law_under) F sc__law_under len__law_under (fun cdv A outer s H E W F R hr hE hp hx => ?_) law__law_under⟩
  have nd := sc__law_under.nd
  have hu65 := hu65_of hr
  exact (sds_cons (sd_set (i := 3) nd rfl (Or.inl rfl) (ed_if (td_cmp (o_ne hr.units) (ed_var 1 (pv 1)).toB ed_int.toB (nomark _)) (ed_o (B := ⟨⟨W, T⟩, F, H⟩) (k := 1) O__law_root bp__law_root (hr.mono (by decide)) hx hE (ad_cons (ed_bin o_mul (ed_bin o_mul ed_int.toB (ed_var 1 (pv 1)).toB).toB (ed_var 1 (pv 1)).toB) ad_nil)) ed_int))
      (sds_one (sd_ret (ed_bin o_fdiv (ed_bin o_add (ed_bin o_add (ed_bin o_mul ed_int.toB (ed_var 0 (pv 0)).toB).toB (ed_var 1 (pv 1)).toB).toB (ed_if (td_cmp o_ge (ed_var 1 (pv 1)).toB ed_int.toB (nomark _)) (ed_var 3 (pv 3)) (ed_bin o_sub (ed_un o_neg (ed_var 3 (pv 3)).toB).toB ed_int.toB)).toB).toB (ed_bin o_mul ed_int.toB (ed_var 2 (pv 2)).toB).toB))))
theorem ok__law_golden {f : Addr} {fd : FuncData} (bt : Bt mg) (ct : Ct K mg) (hm : mg "_law_golden" = some (.ref f)) (F : Fun K "_law_golden" "_law_golden" (top 77) f fd) (O__law_common : OkD P w K mg base T "_law_common" (top 76) 1 ["_law_one", "_law_other"] sp__law_common) : OkD P w K mg base T "_law_golden" (top 77) 2 ["_law_a", "_law_b", "_law_d"] sp__law_golden := by
  refine ⟨f, fd, hm, F, okD (g := g__law_golden) F sc__law_golden len__law_golden (fun cdv A outer s H E W F R hr hE hp hx => ?_) law__law_golden⟩
  have nd := sc__law_golden.nd
  have hu65 := hu65_of hr
  exact (sds_cons (sd_set (i := 3) nd rfl (Or.inl rfl) (ed_o (B := ⟨⟨W, T⟩, F, H⟩) (k := 1) O__law_common bp__law_common (hr.mono (by decide)) hx hE (ad_cons (ed_o (B := ⟨⟨W, T⟩, F, H⟩) (k := 1) O__law_common bp__law_common (hr.mono (by decide)) hx hE (ad_cons (ed_var 2 (pv 2)) (ad_cons (ed_callB c_abs (by rfl) bt.b_abs nbAbs (abd_cons (ed_var 0 (pv 0)).toB abd_nil)) ad_nil))) (ad_cons (ed_callB c_abs (by rfl) bt.b_abs nbAbs (abd_cons (ed_var 1 (pv 1)).toB abd_nil)) ad_nil))))
      (sds_one (sd_ret (ed_tup (ad_cons (ed_bin o_fdiv (ed_var 0 (pv 0)).toB (ed_var 3 (pv 3)).toB) (ad_cons (ed_bin o_fdiv (ed_var 1 (pv 1)).toB (ed_var 3 (pv 3)).toB) (ad_cons (ed_bin o_fdiv (ed_var 2 (pv 2)).toB (ed_var 3 (pv 3)).toB) ad_nil)))))))
theorem ok__law_sides {f : Addr} {fd : FuncData} (bt : Bt mg) (ct : Ct K mg) (hm : mg "_law_sides" = some (.ref f)) (F : Fun K "_law_sides" "_law_sides" (top 80) f fd) (O__law_whole : OkD P w K mg base T "_law_whole" (top 79) 1 ["_law_d", "_law_keys_here"] sp__law_whole) : OkD P w K mg base T "_law_sides" (top 80) 2 ["_law_d", "_law_keys_here"] sp__law_sides := by
  refine ⟨f, fd, hm, F, okD (g := g__law_sides) F sc__law_sides len__law_sides (fun cdv A outer s H E W F R hr hE hp hx => ?_) law__law_sides⟩
  have nd := sc__law_sides.nd
  have hu65 := hu65_of hr
  exact (sds_cons (sd_set (i := 2) nd rfl (Or.inr rfl) (ed_o (B := ⟨⟨W, T⟩, F, H⟩) (k := 1) O__law_whole bp__law_whole (hr.mono (by decide)) hx hE (ad_cons (ed_var 0 (pv 0)) (ad_cons (ed_var 1 (pv 1)) ad_nil))))
      (sds_cons (sd_if (td_cmp (o_eq hr.units) (ed_var 2 (pv 2)).toB (fd_lst ad_nil).toE.toB (nomark _)) (sds_one (sd_ret (fd_lst (ad_cons (ed_tup (ad_cons ed_int (ad_cons ed_int (ad_cons ed_int (ad_cons ed_int (ad_cons ed_int ad_nil)))))) ad_nil)).toE)) sds_nil)
      (sds_cons (sd_if (td_cmp (o_eq hr.units) (ed_callB c_len (by rfl) bt.b_len nbLen (abd_cons (ed_var 2 (pv 2)).toB abd_nil)).toB ed_int.toB (nomark _)) (sds_one (sd_ret (fd_lc (own := [("_law_side", 6)]) rfl nd (pid_data (ed_tup (ad_cons (ed_un o_neg ed_int.toB) (ad_cons ed_int ad_nil)))) (blkOk_by (own := [("_law_side", 6)]) (N := ["_law_d", "_law_keys_here", "_law_whole_here", "_law_row", "_law_found", "_law_turn", "_law_side", "_law_r", "_law_it"]) (sc := defScope (top 80)) (by decide +kernel)) (ct_name (by decide)) (fun _ _ _ _ _ => pg_name (i := 6) nd rfl (Or.inr rfl)) (fun _ _ _ _ _ => tds_nil) (fun _ _ _ _ _ => (ed_callTy c_tuple (by rfl) bt.b_tuple nbTuple (abd_cons (ED.toB (FD.toE (fd_lc (own := [("_law_r", 7)]) rfl nd (pid_rng1 (by rfl) bt.b_range (ad_cons ed_int ad_nil)) (blkOk_by (by kernel_rfl)) (ct_name (by decide)) (fun _ _ _ _ _ => pg_name (i := 7) nd rfl (Or.inl rfl)) (fun _ _ _ _ _ => tds_nil) (fun _ _ _ _ _ => (ed_if (td_cmp (o_eq hr.units) (ed_var 7 (pv 7)).toB (ed_ix (ed_var 2 (pv 2)).toB ed_int.toB).toB (nomark _)) (ed_var 6 (pv 6)) ed_int))))) abd_nil)))).toE)) sds_nil)
      (sds_cons (sd_parR (i := 3) (j := 4) rfl nd rfl rfl (by decide) rfl rfl (ed_tup (ad_cons ed_int (ad_cons (ed_un o_neg ed_int.toB) (ad_cons ed_int (ad_cons ed_int (ad_cons (ed_un o_neg ed_int.toB) ad_nil)))))) (fd_lst ad_nil) (by rfl))
      (sds_cons (sd_for hp rfl (pid_rng1 (by rfl) bt.b_range (ad_cons ed_int ad_nil)) (gd_name (pg_name (i := 5) nd rfl (Or.inl rfl))) (sds_cons (sd_extE (pv 4) (fd_lst (ad_cons (ed_var 3 (pv 3)) (ad_cons (ed_callTy c_tuple (by rfl) bt.b_tuple nbTuple (abd_cons (fd_lc (own := [("_law_it", 8)]) rfl nd (pid_data (ed_var 3 (pv 3))) (blkOk_by (own := [("_law_it", 8)]) (N := ["_law_d", "_law_keys_here", "_law_whole_here", "_law_row", "_law_found", "_law_turn", "_law_side", "_law_r", "_law_it"]) (sc := defScope (top 80)) (by decide +kernel)) (ct_name (by decide)) (fun _ _ _ _ _ => pg_name (i := 8) nd rfl (Or.inl rfl)) (fun _ _ _ _ _ => tds_nil) (fun _ _ _ _ _ => (ed_un o_neg (ed_var 8 (pv 8)).toB))).toE.toB abd_nil)) ad_nil))).toE)
      (sds_one (sd_set (i := 3) nd rfl (Or.inl rfl) (ed_bin o_add (ed_sl (ed_var 3 (pv 3)).toB (od_some (ed_un o_neg ed_int.toB)) od_none).toB (ed_sl (ed_var 3 (pv 3)).toB od_none (od_some (ed_un o_neg ed_int.toB))).toB)))))
      (sds_one (sd_ret (fd_callB c_sortT (by rfl) bt.b_sorted nbSorted (abd_cons (bd_var 4 (pv 4)) abd_nil)).toE)))))))
theorem ok__law_compared {f : Addr} {fd : FuncData} (bt : Bt mg) (ct : Ct K mg) (hm : mg "_law_compared" = some (.ref f)) (F : Fun K "_law_compared" "_law_compared" (top 88) f fd) (O__law_bar_height : OkD P w K mg base T "_law_bar_height" (top 85) 1 ["_law_bar_here"] sp__law_bar_height) (O__law_sign : OkD P w K mg base T "_law_sign" (top 72) 1 ["_law_a", "_law_b"] sp__law_sign) : OkD P w K mg base T "_law_compared" (top 88) 2 ["_law_bar_here", "_law_height_here"] sp__law_compared := by
  refine ⟨f, fd, hm, F, okD (g := g__law_compared) F sc__law_compared len__law_compared (fun cdv A outer s H E W F R hr hE hp hx => ?_) law__law_compared⟩
  have nd := sc__law_compared.nd
  have hu65 := hu65_of hr
  exact (sds_cons (sd_setT (is := [2, 3, 4]) rfl (na_cons (pg_name (i := 2) nd rfl (Or.inl rfl)) (na_cons (pg_name (i := 3) nd rfl (Or.inl rfl)) (na_cons (pg_name (i := 4) nd rfl (Or.inl rfl)) na_nil))) (ed_var 1 (pv 1)))
      (sds_cons (sd_set (i := 5) nd rfl (Or.inl rfl) (ed_o (B := ⟨⟨W, T⟩, F, H⟩) (k := 1) O__law_bar_height bp__law_bar_height (hr.mono (by decide)) hx hE (ad_cons (ed_var 0 (pv 0)) ad_nil)))
      (sds_one (sd_ret (ed_o (B := ⟨⟨W, T⟩, F, H⟩) (k := 1) O__law_sign bp__law_sign (hr.mono (by decide)) hx hE (ad_cons (ed_bin o_sub (ed_bin o_mul (ed_ix (ed_var 5 (pv 5)).toB ed_int.toB).toB (ed_var 4 (pv 4)).toB).toB (ed_bin o_mul ed_int.toB (ed_var 2 (pv 2)).toB).toB) (ad_cons (ed_bin o_sub (ed_bin o_mul (ed_ix (ed_var 5 (pv 5)).toB ed_int.toB).toB (ed_var 4 (pv 4)).toB).toB (ed_bin o_mul ed_int.toB (ed_var 3 (pv 3)).toB).toB) ad_nil)))))))
theorem ok_taken {f : Addr} {fd : FuncData} (bt : Bt mg) (ct : Ct K mg) (hm : mg "taken" = some (.ref f)) (F : Fun K "taken" "taken" (top 9) f fd) (O_added : OkD P w K mg base T "added" (top 8) 2 ["one", "other"] sp_added) (O_negative : OkD P w K mg base T "negative" (top 7) 1 ["one"] sp_negative) : OkD P w K mg base T "taken" (top 9) 3 ["one", "other"] sp_taken := by
  refine ⟨f, fd, hm, F, okD (g := g_taken) F sc_taken len_taken (fun cdv A outer s H E W F R hr hE hp hx => ?_) law_taken⟩
  have nd := sc_taken.nd
  have hu65 := hu65_of hr
  exact (sds_one (sd_ret (ed_o (B := ⟨⟨W, T⟩, F, H⟩) (k := 2) O_added bp_added (hr.mono (by decide)) hx hE (ad_cons (ed_var 0 (pv 0)) (ad_cons (ed_o (B := ⟨⟨W, T⟩, F, H⟩) (k := 1) O_negative bp_negative (hr.mono (by decide)) hx hE (ad_cons (ed_var 1 (pv 1)) ad_nil)) ad_nil)))))
theorem ok_divided {f : Addr} {fd : FuncData} (bt : Bt mg) (ct : Ct K mg) (hm : mg "divided" = some (.ref f)) (F : Fun K "divided" "divided" (top 13) f fd) (O_multiplied : OkD P w K mg base T "multiplied" (top 10) 2 ["one", "other"] sp_multiplied) (O_normal : OkD P w K mg base T "normal" (top 4) 1 ["a", "b", "d"] sp_normal) : OkD P w K mg base T "divided" (top 13) 3 ["one", "other"] sp_divided := by
  refine ⟨f, fd, hm, F, okD (g := g_divided) F sc_divided len_divided (fun cdv A outer s H E W F R hr hE hp hx => ?_) law_divided⟩
  have nd := sc_divided.nd
  have hu65 := hu65_of hr
  exact (sds_cons (sd_par2 (i := 2) (j := 3) rfl nd rfl rfl (by decide) rfl rfl (ad_cons (ed_ix (ed_var 1 (pv 1)).toB ed_int.toB) (ad_cons (ed_ix (ed_var 1 (pv 1)).toB ed_int.toB) ad_nil)) (by rfl))
      (sds_cons (sd_set (i := 4) nd rfl (Or.inl rfl) (ed_o (B := ⟨⟨W, T⟩, F, H⟩) (k := 2) O_multiplied bp_multiplied (hr.mono (by decide)) hx hE (ad_cons (ed_tup (ad_cons (ed_ix (ed_var 0 (pv 0)).toB ed_int.toB) (ad_cons (ed_ix (ed_var 0 (pv 0)).toB ed_int.toB) (ad_cons ed_int ad_nil)))) (ad_cons (ed_tup (ad_cons (ed_bin o_add (ed_var 2 (pv 2)).toB (ed_var 3 (pv 3)).toB) (ad_cons (ed_un o_neg (ed_var 3 (pv 3)).toB) (ad_cons ed_int ad_nil)))) ad_nil))))
      (sds_cons (sd_set (i := 5) nd rfl (Or.inl rfl) (ed_bin o_sub (ed_bin o_add (ed_bin o_mul (ed_var 2 (pv 2)).toB (ed_var 2 (pv 2)).toB).toB (ed_bin o_mul (ed_var 2 (pv 2)).toB (ed_var 3 (pv 3)).toB).toB).toB (ed_bin o_mul (ed_var 3 (pv 3)).toB (ed_var 3 (pv 3)).toB).toB))
      (sds_one (sd_ret (ed_o (B := ⟨⟨W, T⟩, F, H⟩) (k := 1) O_normal bp_normal (hr.mono (by decide)) hx hE (ad_cons (ed_bin o_mul (ed_ix (ed_var 4 (pv 4)).toB ed_int.toB).toB (ed_ix (ed_var 1 (pv 1)).toB ed_int.toB).toB) (ad_cons (ed_bin o_mul (ed_ix (ed_var 4 (pv 4)).toB ed_int.toB).toB (ed_ix (ed_var 1 (pv 1)).toB ed_int.toB).toB) (ad_cons (ed_bin o_mul (ed_var 5 (pv 5)).toB (ed_ix (ed_var 0 (pv 0)).toB ed_int.toB).toB) ad_nil)))))))))
theorem ok_floor_has_bar {f : Addr} {fd : FuncData} (bt : Bt mg) (ct : Ct K mg) (hm : mg "floor_has_bar" = some (.ref f)) (F : Fun K "floor_has_bar" "floor_has_bar" (top 22) f fd) (O_phase_sign : OkD P w K mg base T "phase_sign" (top 21) 2 ["floor", "bar", "a", "b"] sp_phase_sign) : OkD P w K mg base T "floor_has_bar" (top 22) 3 ["floor", "bar"] sp_floor_has_bar := by
  refine ⟨f, fd, hm, F, okD (g := g_floor_has_bar) F sc_floor_has_bar len_floor_has_bar (fun cdv A outer s H E W F R hr hE hp hx => ?_) law_floor_has_bar⟩
  have nd := sc_floor_has_bar.nd
  have hu65 := hu65_of hr
  exact (sds_one (sd_ret (ed_and (ed_cmp o_gt (ed_o (B := ⟨⟨W, T⟩, F, H⟩) (k := 2) O_phase_sign bp_phase_sign (hr.mono (by decide)) hx hE (ad_cons (ed_var 0 (pv 0)) (ad_cons (ed_var 1 (pv 1)) (ad_cons ed_int (ad_cons (ed_un o_neg ed_int.toB) ad_nil))))).toB ed_int.toB (nomark _)) (ed_one (ed_cmp o_lt (ed_o (B := ⟨⟨W, T⟩, F, H⟩) (k := 2) O_phase_sign bp_phase_sign (hr.mono (by decide)) hx hE (ad_cons (ed_var 0 (pv 0)) (ad_cons (ed_var 1 (pv 1)) (ad_cons ed_int (ad_cons ed_int ad_nil))))).toB ed_int.toB (nomark _))))))
theorem ok_is_long {f : Addr} {fd : FuncData} (bt : Bt mg) (ct : Ct K mg) (hm : mg "is_long" = some (.ref f)) (F : Fun K "is_long" "is_long" (top 23) f fd) (O_phase_sign : OkD P w K mg base T "phase_sign" (top 21) 2 ["floor", "bar", "a", "b"] sp_phase_sign) : OkD P w K mg base T "is_long" (top 23) 3 ["floor", "bar"] sp_is_long := by
  refine ⟨f, fd, hm, F, okD (g := g_is_long) F sc_is_long len_is_long (fun cdv A outer s H E W F R hr hE hp hx => ?_) law_is_long⟩
  have nd := sc_is_long.nd
  have hu65 := hu65_of hr
  exact (sds_one (sd_ret (ed_cmp o_gt (ed_o (B := ⟨⟨W, T⟩, F, H⟩) (k := 2) O_phase_sign bp_phase_sign (hr.mono (by decide)) hx hE (ad_cons (ed_var 0 (pv 0)) (ad_cons (ed_var 1 (pv 1)) (ad_cons ed_int (ad_cons ed_int ad_nil))))).toB ed_int.toB (nomark _))))
theorem ok_sides_of {f : Addr} {fd : FuncData} (bt : Bt mg) (ct : Ct K mg) (hm : mg "sides_of" = some (.ref f)) (F : Fun K "sides_of" "sides_of" (top 50) f fd) (O_whole_directions : OkD P w K mg base T "whole_directions" (top 49) 2 ["keys"] sp_whole_directions) : OkD P w K mg base T "sides_of" (top 50) 3 ["keys"] sp_sides_of := by
  refine ⟨f, fd, hm, F, okD (g := g_sides_of) F sc_sides_of len_sides_of (fun cdv A outer s H E W F R hr hE hp hx => ?_) law_sides_of⟩
  have nd := sc_sides_of.nd
  have hu65 := hu65_of hr
  exact (sds_cons (sd_set (i := 1) nd rfl (Or.inl rfl) (ed_o (B := ⟨⟨W, T⟩, F, H⟩) (k := 2) O_whole_directions bp_whole_directions (hr.mono (by decide)) hx hE (ad_cons (ed_var 0 (pv 0)) ad_nil)))
      (sds_cons (sd_if (td_cmp (o_eq hr.units) (ed_callB c_len (by rfl) bt.b_len nbLen (abd_cons (ed_var 1 (pv 1)).toB abd_nil)).toB ed_int.toB (nomark _)) (sds_one (sd_ret (ed_tup (ad_cons (ed_glob ct.gl_NO_SIDE) ad_nil)))) sds_nil)
      (sds_cons (sd_if (td_cmp (o_eq hr.units) (ed_callB c_len (by rfl) bt.b_len nbLen (abd_cons (ed_var 1 (pv 1)).toB abd_nil)).toB ed_int.toB (nomark _)) (sds_cons (sd_set (i := 4) nd rfl (Or.inr rfl) (ed_ix (ed_var 1 (pv 1)).toB ed_int.toB))
      (sds_cons (sd_set (i := 5) nd rfl (Or.inl rfl) (ed_callTy c_tuple (by rfl) bt.b_tuple nbTuple (abd_cons (fd_lc (own := [("j", 6)]) rfl nd (pid_rng1 (by rfl) bt.b_range (ad_cons ed_int ad_nil)) (blkOk_by (own := [("j", 6)]) (N := ["keys", "directions", "found", "turns", "r", "one", "j", "part"]) (sc := defScope (top 50)) (by decide +kernel)) (ct_name (by decide)) (fun _ _ _ _ _ => pg_name (i := 6) nd rfl (Or.inl rfl)) (fun _ _ _ _ _ => tds_nil) (fun _ _ _ _ _ => (ed_if (td_cmp (o_eq hr.units) (ed_var 6 (pv 6)).toB (ed_var 4 (pv 4)).toB (nomark _)) ed_int ed_int))).toE.toB abd_nil)))
      (sds_one (sd_ret (ed_tup (ad_cons (ed_callTy c_tuple (by rfl) bt.b_tuple nbTuple (abd_cons (fd_lc (own := [("part", 7)]) rfl nd (pid_data (ed_var 5 (pv 5))) (blkOk_by (own := [("part", 7)]) (N := ["keys", "directions", "found", "turns", "r", "one", "j", "part"]) (sc := defScope (top 50)) (by decide +kernel)) (ct_name (by decide)) (fun _ _ _ _ _ => pg_name (i := 7) nd rfl (Or.inl rfl)) (fun _ _ _ _ _ => tds_nil) (fun _ _ _ _ _ => (ed_un o_neg (ed_var 7 (pv 7)).toB))).toE.toB abd_nil)) (ad_cons (ed_var 5 (pv 5)) ad_nil))))))) sds_nil)
      (sds_cons (sd_setL (i := 2) nd rfl (Or.inl rfl) (fd_lst ad_nil))
      (sds_cons (sd_for hp rfl (pid_rng1 (by rfl) bt.b_range (ad_cons ed_int ad_nil)) (gd_name (pg_name (i := 3) nd rfl (Or.inr rfl))) (sds_cons (sd_set (i := 5) nd rfl (Or.inl rfl) (ed_callTy c_tuple (by rfl) bt.b_tuple nbTuple (abd_cons (fd_lc (own := [("j", 6)]) rfl nd (pid_rng1 (by rfl) bt.b_range (ad_cons ed_int ad_nil)) (blkOk_by (own := [("j", 6)]) (N := ["keys", "directions", "found", "turns", "r", "one", "j", "part"]) (sc := defScope (top 50)) (by decide +kernel)) (ct_name (by decide)) (fun _ _ _ _ _ => pg_name (i := 6) nd rfl (Or.inl rfl)) (fun _ _ _ _ _ => tds_nil) (fun _ _ _ _ _ => (ed_ix (ed_glob ct.gl_FIRST_SIDE).toB (ed_bin o_mod (ed_bin o_sub (ed_var 6 (pv 6)).toB (ed_var 3 (pv 3)).toB).toB ed_int.toB).toB))).toE.toB abd_nil)))
      (sds_cons (sd_appE (pv 2) (ed_var 5 (pv 5)))
      (sds_one (sd_appE (pv 2) (ed_callTy c_tuple (by rfl) bt.b_tuple nbTuple (abd_cons (fd_lc (own := [("part", 7)]) rfl nd (pid_data (ed_var 5 (pv 5))) (blkOk_by (own := [("part", 7)]) (N := ["keys", "directions", "found", "turns", "r", "one", "j", "part"]) (sc := defScope (top 50)) (by decide +kernel)) (ct_name (by decide)) (fun _ _ _ _ _ => pg_name (i := 7) nd rfl (Or.inl rfl)) (fun _ _ _ _ _ => tds_nil) (fun _ _ _ _ _ => (ed_un o_neg (ed_var 7 (pv 7)).toB))).toE.toB abd_nil)))))))
      (sds_one (sd_ret (ed_callTy c_tuple (by rfl) bt.b_tuple nbTuple (abd_cons (fd_callB c_sortT (by rfl) bt.b_sorted nbSorted (abd_cons (bd_var 2 (pv 2)) abd_nil)).toE.toB abd_nil)))))))))
theorem ok_is_bar {f : Addr} {fd : FuncData} (bt : Bt mg) (ct : Ct K mg) (hm : mg "is_bar" = some (.ref f)) (F : Fun K "is_bar" "is_bar" (top 56) f fd) (O_is_direction : OkD P w K mg base T "is_direction" (top 17) 2 ["thing"] sp_is_direction) (O_is_integer : OkD P w K mg base T "is_integer" (top 2) 1 ["thing"] sp_is_integer) : OkD P w K mg base T "is_bar" (top 56) 3 ["thing"] sp_is_bar := by
  refine ⟨f, fd, hm, F, okD (g := g_is_bar) F sc_is_bar len_is_bar (fun cdv A outer s H E W F R hr hE hp hx => ?_) law_is_bar⟩
  have nd := sc_is_bar.nd
  have hu65 := hu65_of hr
  exact (sds_cons (sd_if (wd_or (td_not (td_val (ed_callB (c_isiX ct.ob) (by rfl) bt.b_isinstance nbIsi (abd_cons (ed_var 0 (pv 0)).toB (abd_cons (ed_ty (by rfl) bt.b_tuple nbTuple).toB abd_nil))).toB)) (wd_or1 (td_cmp (o_ne hr.units) (ed_callB c_len (by rfl) bt.b_len nbLen (abd_cons (ed_var 0 (pv 0)).toB abd_nil)).toB ed_int.toB (nomark _)))).t (sds_one (sd_ret ed_bl)) sds_nil)
      (sds_one (sd_ret (ed_and (ed_o (B := ⟨⟨W, T⟩, F, H⟩) (k := 2) O_is_direction bp_is_direction (hr.mono (by decide)) hx hE (ad_cons (ed_ix (ed_var 0 (pv 0)).toB ed_int.toB) ad_nil)) (ed_and (ed_o (B := ⟨⟨W, T⟩, F, H⟩) (k := 1) O_is_integer bp_is_integer (hr.mono (by decide)) hx hE (ad_cons (ed_ix (ed_var 0 (pv 0)).toB ed_int.toB) ad_nil)) (ed_one (ed_o (B := ⟨⟨W, T⟩, F, H⟩) (k := 1) O_is_integer bp_is_integer (hr.mono (by decide)) hx hE (ad_cons (ed_ix (ed_var 0 (pv 0)).toB ed_int.toB) ad_nil))))))))
theorem ok_need_direction {f : Addr} {fd : FuncData} (bt : Bt mg) (ct : Ct K mg) (hm : mg "need_direction" = some (.ref f)) (F : Fun K "need_direction" "need_direction" (top 58) f fd) (O_is_direction : OkD P w K mg base T "is_direction" (top 17) 2 ["thing"] sp_is_direction) : OkD P w K mg base T "need_direction" (top 58) 3 ["direction"] sp_need_direction := by
  obtain ⟨C_BadDirection, fI_BadDirection, T_BadDirection, N_BadDirection⟩ := ct.er_BadDirection
  refine ⟨f, fd, hm, F, okD (g := g_need_direction) F sc_need_direction len_need_direction (fun cdv A outer s H E W F R hr hE hp hx => ?_) law_need_direction⟩
  have nd := sc_need_direction.nd
  have hu65 := hu65_of hr
  exact (sds_one (sd_if (td_not (td_val (ed_o (B := ⟨⟨W, T⟩, F, H⟩) (k := 2) O_is_direction bp_is_direction (hr.mono (by decide)) hx hE (ad_cons (ed_var 0 (pv 0)) ad_nil)).toB)) (sds_one (sd_raise rfl T_BadDirection N_BadDirection hr (takes_of rfl rfl rfl rfl) hE (ed_var 0 (pv 0)))) sds_nil))
theorem ok_is_point {f : Addr} {fd : FuncData} (bt : Bt mg) (ct : Ct K mg) (hm : mg "is_point" = some (.ref f)) (F : Fun K "is_point" "is_point" (top 66) f fd) (O_compared : OkD P w K mg base T "compared" (top 6) 2 ["one", "other"] sp_compared) (O_added : OkD P w K mg base T "added" (top 8) 2 ["one", "other"] sp_added) (O_times_less : OkD P w K mg base T "times_less" (top 12) 1 ["one"] sp_times_less) (O_is_number : OkD P w K mg base T "is_number" (top 3) 2 ["thing"] sp_is_number) : OkD P w K mg base T "is_point" (top 66) 3 ["thing"] sp_is_point := by
  refine ⟨f, fd, hm, F, okD (g := g_is_point) F sc_is_point len_is_point (fun cdv A outer s H E W F R hr hE hp hx => ?_) law_is_point⟩
  have nd := sc_is_point.nd
  have hu65 := hu65_of hr
  exact (sds_cons (sd_if (wd_or (td_not (td_val (ed_callB (c_isiX ct.ob) (by rfl) bt.b_isinstance nbIsi (abd_cons (ed_var 0 (pv 0)).toB (abd_cons (ed_ty (by rfl) bt.b_tuple nbTuple).toB abd_nil))).toB)) (wd_or (td_cmp (o_ne hr.units) (ed_callB c_len (by rfl) bt.b_len nbLen (abd_cons (ed_var 0 (pv 0)).toB abd_nil)).toB ed_int.toB (nomark _)) (wd_or1 (td_not (td_val (ed_callB (c_all rfl) (by rfl) bt.b_all nbAll (abd_cons (fd_lc (own := [("part", 2)]) rfl nd (pid_data (ed_var 0 (pv 0))) (blkOk_by (own := [("part", 2)]) (N := ["thing", "j", "part"]) (sc := defScope (top 66)) (by decide +kernel)) (ct_name (by decide)) (fun _ _ _ _ _ => pg_name (i := 2) nd rfl (Or.inl rfl)) (fun _ _ _ _ _ => tds_nil) (fun _ _ _ _ _ => (ed_o (B := ⟨⟨W, T⟩, F, H⟩) (k := 2) O_is_number bp_is_number (hr.mono (by decide)) passL FinE.none (ad_cons (ed_var 2 (pv 2)) ad_nil)))).toE.toB abd_nil)).toB))))).t (sds_one (sd_ret ed_bl)) sds_nil)
      (sds_cons (sd_for hp rfl (pid_rng1 (by rfl) bt.b_range (ad_cons ed_int ad_nil)) (gd_name (pg_name (i := 1) nd rfl (Or.inl rfl))) (sds_one (sd_if (td_cmp (o_ne hr.units) (ed_o (B := ⟨⟨W, T⟩, F, H⟩) (k := 2) O_compared bp_compared (hr.mono (by decide)) hx hE (ad_cons (ed_o (B := ⟨⟨W, T⟩, F, H⟩) (k := 2) O_added bp_added (hr.mono (by decide)) hx hE (ad_cons (ed_ix (ed_var 0 (pv 0)).toB (ed_bin o_sub (ed_var 1 (pv 1)).toB ed_int.toB).toB) (ad_cons (ed_ix (ed_var 0 (pv 0)).toB (ed_bin o_mod (ed_bin o_add (ed_var 1 (pv 1)).toB ed_int.toB).toB ed_int.toB).toB) ad_nil))) (ad_cons (ed_o (B := ⟨⟨W, T⟩, F, H⟩) (k := 1) O_times_less bp_times_less (hr.mono (by decide)) hx hE (ad_cons (ed_ix (ed_var 0 (pv 0)).toB (ed_var 1 (pv 1)).toB) ad_nil)) ad_nil))).toB ed_int.toB (nomark _)) (sds_one (sd_ret ed_bl)) sds_nil)))
      (sds_one (sd_ret ed_bl))))
theorem ok__law_world {f : Addr} {fd : FuncData} (bt : Bt mg) (ct : Ct K mg) (hm : mg "_law_world" = some (.ref f)) (F : Fun K "_law_world" "_law_world" (top 81) f fd) (O__law_pick : OkD P w K mg base T "_law_pick" (top 70) 2 ["_law_deck_here", "_law_some"] sp__law_pick) (O__law_draw : OkD P w K mg base T "_law_draw" (top 69) 1 ["_law_deck_here", "_law_many"] spDraw) (O__law_keys : OkD P w K mg base T "_law_keys" (top 78) 1 ["_law_r", "_law_one", "_law_other"] sp__law_keys) (O__law_sides : OkD P w K mg base T "_law_sides" (top 80) 2 ["_law_d", "_law_keys_here"] sp__law_sides) (O__law_number : OkD P w K mg base T "_law_number" (top 71) 2 ["_law_deck_here"] sp__law_number) : OkD P w K mg base T "_law_world" (top 81) 3 ["_law_deck_here", "_law_edge"] sp__law_world := by
  refine ⟨f, fd, hm, F, okD (g := g__law_world) F sc__law_world len__law_world (fun cdv A outer s H E W F R hr hE hp hx => ?_) law__law_world⟩
  have nd := sc__law_world.nd
  have hu65 := hu65_of hr
  exact (sds_cons (sd_set (i := 2) nd rfl (Or.inl rfl) (ed_o (B := ⟨⟨W, T⟩, F, H⟩) (k := 2) O__law_pick bp__law_pick (hr.mono (by decide)) hx hE (ad_cons (ed_var 0 (pv 0)) (ad_cons (ed_tup (ad_cons ed_int (ad_cons ed_int (ad_cons ed_int (ad_cons ed_int (ad_cons ed_int (ad_cons ed_int (ad_cons ed_int (ad_cons ed_int (ad_cons ed_int (ad_cons ed_int (ad_cons ed_int (ad_cons ed_int (ad_cons ed_int (ad_cons ed_int (ad_cons ed_int (ad_cons ed_int ad_nil))))))))))))))))) ad_nil))))
      (sds_cons (sd_set (i := 3) nd rfl (Or.inl rfl) (ed_o (B := ⟨⟨W, T⟩, F, H⟩) (k := 1) O__law_draw bp__law_draw (hr.mono (by decide)) hx hE (ad_cons (ed_var 0 (pv 0)) (ad_cons ed_int ad_nil))))
      (sds_cons (sd_set (i := 4) nd rfl (Or.inl rfl) (ed_tup (ad_cons (ed_o (B := ⟨⟨W, T⟩, F, H⟩) (k := 1) O__law_draw bp__law_draw (hr.mono (by decide)) hx hE (ad_cons (ed_var 0 (pv 0)) (ad_cons (ed_var 2 (pv 2)) ad_nil))) (ad_cons (ed_o (B := ⟨⟨W, T⟩, F, H⟩) (k := 1) O__law_draw bp__law_draw (hr.mono (by decide)) hx hE (ad_cons (ed_var 0 (pv 0)) (ad_cons (ed_var 2 (pv 2)) ad_nil))) ad_nil))))
      (sds_cons (sd_if (td_val (ed_var 1 (pv 1)).toB) (sds_one (sd_set (i := 4) nd rfl (Or.inl rfl) (ed_tup (ad_cons ed_int (ad_cons ed_int ad_nil))))) sds_nil)
      (sds_cons (sd_set (i := 5) nd rfl (Or.inl rfl) (ed_tup (ad_cons (ed_o (B := ⟨⟨W, T⟩, F, H⟩) (k := 1) O__law_draw bp__law_draw (hr.mono (by decide)) hx hE (ad_cons (ed_var 0 (pv 0)) (ad_cons (ed_var 2 (pv 2)) ad_nil))) (ad_cons (ed_o (B := ⟨⟨W, T⟩, F, H⟩) (k := 1) O__law_draw bp__law_draw (hr.mono (by decide)) hx hE (ad_cons (ed_var 0 (pv 0)) (ad_cons (ed_var 2 (pv 2)) ad_nil))) ad_nil))))
      (sds_cons (sd_set (i := 4) nd rfl (Or.inl rfl) (ed_tup (ad_cons (ed_bin o_add (ed_ix (ed_var 4 (pv 4)).toB ed_int.toB).toB (ed_bin o_mul (ed_var 2 (pv 2)).toB (ed_o (B := ⟨⟨W, T⟩, F, H⟩) (k := 2) O__law_number bp__law_number (hr.mono (by decide)) hx hE (ad_cons (ed_var 0 (pv 0)) ad_nil)).toB).toB) (ad_cons (ed_bin o_add (ed_ix (ed_var 4 (pv 4)).toB ed_int.toB).toB (ed_bin o_mul (ed_var 2 (pv 2)).toB (ed_o (B := ⟨⟨W, T⟩, F, H⟩) (k := 2) O__law_number bp__law_number (hr.mono (by decide)) hx hE (ad_cons (ed_var 0 (pv 0)) ad_nil)).toB).toB) ad_nil))))
      (sds_cons (sd_set (i := 5) nd rfl (Or.inl rfl) (ed_tup (ad_cons (ed_bin o_add (ed_ix (ed_var 5 (pv 5)).toB ed_int.toB).toB (ed_bin o_mul (ed_var 2 (pv 2)).toB (ed_o (B := ⟨⟨W, T⟩, F, H⟩) (k := 2) O__law_number bp__law_number (hr.mono (by decide)) hx hE (ad_cons (ed_var 0 (pv 0)) ad_nil)).toB).toB) (ad_cons (ed_bin o_add (ed_ix (ed_var 5 (pv 5)).toB ed_int.toB).toB (ed_bin o_mul (ed_var 2 (pv 2)).toB (ed_o (B := ⟨⟨W, T⟩, F, H⟩) (k := 2) O__law_number bp__law_number (hr.mono (by decide)) hx hE (ad_cons (ed_var 0 (pv 0)) ad_nil)).toB).toB) ad_nil))))
      (sds_cons (sd_set (i := 6) nd rfl (Or.inl rfl) (ed_o (B := ⟨⟨W, T⟩, F, H⟩) (k := 1) O__law_keys bp__law_keys (hr.mono (by decide)) hx hE (ad_cons (ed_var 3 (pv 3)) (ad_cons (ed_var 4 (pv 4)) (ad_cons (ed_var 5 (pv 5)) ad_nil)))))
      (sds_one (sd_ret (ed_tup (ad_cons (ed_var 2 (pv 2)) (ad_cons (ed_var 6 (pv 6)) (ad_cons (ed_o (B := ⟨⟨W, T⟩, F, H⟩) (k := 2) O__law_pick bp__law_pick (hr.mono (by decide)) hx hE (ad_cons (ed_var 0 (pv 0)) (ad_cons (ed_o (B := ⟨⟨W, T⟩, F, H⟩) (k := 2) O__law_sides bp__law_sides (hr.mono (by decide)) hx hE (ad_cons (ed_var 2 (pv 2)) (ad_cons (ed_var 6 (pv 6)) ad_nil))) ad_nil))) ad_nil))))))))))))))
theorem ok__law_bar {f : Addr} {fd : FuncData} (bt : Bt mg) (ct : Ct K mg) (hm : mg "_law_bar" = some (.ref f)) (F : Fun K "_law_bar" "_law_bar" (top 84) f fd) (O__law_under : OkD P w K mg base T "_law_under" (top 75) 2 ["_law_a", "_law_b", "_law_d"] sp__law_under) (O__law_phase : OkD P w K mg base T "_law_phase" (top 83) 1 ["_law_world_here", "_law_j", "_law_number_here", "_law_x"] sp__law_phase) (O__law_tie : OkD P w K mg base T "_law_tie" (top 73) 2 ["_law_a", "_law_b", "_law_side"] sp__law_tie) : OkD P w K mg base T "_law_bar" (top 84) 3 ["_law_world_here", "_law_j", "_law_number_here"] sp__law_bar := by
  refine ⟨f, fd, hm, F, okD (g := g__law_bar) F sc__law_bar len__law_bar (fun cdv A outer s H E W F R hr hE hp hx => ?_) law__law_bar⟩
  have nd := sc__law_bar.nd
  have hu65 := hu65_of hr
  exact (sds_cons (sd_setT (is := [3, 4, 5]) rfl (na_cons (pg_name (i := 3) nd rfl (Or.inl rfl)) (na_cons (pg_name (i := 4) nd rfl (Or.inl rfl)) (na_cons (pg_name (i := 5) nd rfl (Or.inl rfl)) na_nil))) (ed_var 0 (pv 0)))
      (sds_cons (sd_par2 (i := 6) (j := 7) rfl nd rfl rfl (by decide) rfl rfl (ad_cons (ed_bin o_sub (ed_bin o_sub (ed_bin o_mul (ed_var 3 (pv 3)).toB (ed_var 2 (pv 2)).toB).toB (ed_var 3 (pv 3)).toB).toB (ed_ix (ed_ix (ed_var 4 (pv 4)).toB (ed_var 1 (pv 1)).toB).toB ed_int.toB).toB) (ad_cons (ed_un o_neg (ed_ix (ed_ix (ed_var 4 (pv 4)).toB (ed_var 1 (pv 1)).toB).toB ed_int.toB).toB) ad_nil)) (by rfl))
      (sds_cons (sd_set (i := 8) nd rfl (Or.inl rfl) (ed_o (B := ⟨⟨W, T⟩, F, H⟩) (k := 2) O__law_under bp__law_under (hr.mono (by decide)) hx hE (ad_cons (ed_bin o_sub (ed_var 7 (pv 7)).toB (ed_var 6 (pv 6)).toB) (ad_cons (ed_var 6 (pv 6)) (ad_cons (ed_var 3 (pv 3)) ad_nil)))))
      (sds_cons (sd_set (i := 9) nd rfl (Or.inl rfl) (ed_o (B := ⟨⟨W, T⟩, F, H⟩) (k := 1) O__law_phase bp__law_phase (hr.mono (by decide)) hx hE (ad_cons (ed_var 0 (pv 0)) (ad_cons (ed_var 1 (pv 1)) (ad_cons (ed_var 2 (pv 2)) (ad_cons (ed_var 8 (pv 8)) ad_nil))))))
      (sds_cons (sd_if (td_cmp o_gt (ed_o (B := ⟨⟨W, T⟩, F, H⟩) (k := 2) O__law_tie bp__law_tie (hr.mono (by decide)) hx hE (ad_cons (ed_bin o_sub (ed_ix (ed_var 9 (pv 9)).toB ed_int.toB).toB (ed_var 3 (pv 3)).toB) (ad_cons (ed_ix (ed_var 9 (pv 9)).toB ed_int.toB) (ad_cons (ed_ix (ed_var 5 (pv 5)).toB (ed_var 1 (pv 1)).toB) ad_nil)))).toB ed_int.toB (nomark _)) (sds_one (sd_set (i := 8) nd rfl (Or.inl rfl) (ed_bin o_add (ed_var 8 (pv 8)).toB ed_int.toB))) sds_nil)
      (sds_one (sd_ret (ed_tup (ad_cons (ed_var 1 (pv 1)) (ad_cons (ed_var 8 (pv 8)) (ad_cons (ed_bin o_sub (ed_var 2 (pv 2)).toB (ed_var 8 (pv 8)).toB) ad_nil)))))))))))
theorem ok__law_place {f : Addr} {fd : FuncData} (bt : Bt mg) (ct : Ct K mg) (hm : mg "_law_place" = some (.ref f)) (F : Fun K "_law_place" "_law_place" (top 87) f fd) (O__law_number : OkD P w K mg base T "_law_number" (top 71) 2 ["_law_deck_here"] sp__law_number) (O__law_whole : OkD P w K mg base T "_law_whole" (top 79) 1 ["_law_d", "_law_keys_here"] sp__law_whole) (O__law_draw : OkD P w K mg base T "_law_draw" (top 69) 1 ["_law_deck_here", "_law_many"] spDraw) : OkD P w K mg base T "_law_place" (top 87) 3 ["_law_deck_here", "_law_world_here", "_law_j"] sp__law_place := by
  refine ⟨f, fd, hm, F, okD (g := g__law_place) F sc__law_place len__law_place (fun cdv A outer s H E W F R hr hE hp hx => ?_) law__law_place⟩
  have nd := sc__law_place.nd
  have hu65 := hu65_of hr
  exact (sds_cons (sd_setT (is := [3, 4, 5]) rfl (na_cons (pg_name (i := 3) nd rfl (Or.inl rfl)) (na_cons (pg_name (i := 4) nd rfl (Or.inl rfl)) (na_cons (pg_name (i := 5) nd rfl (Or.inl rfl)) na_nil))) (ed_var 1 (pv 1)))
      (sds_cons (sd_if (wd_and (td_cmp (o_in hu65) (ed_var 2 (pv 2)).toB (ed_o (B := ⟨⟨W, T⟩, F, H⟩) (k := 1) O__law_whole bp__law_whole (hr.mono (by decide)) hx hE (ad_cons (ed_var 3 (pv 3)) (ad_cons (ed_var 4 (pv 4)) ad_nil))).toB (by rfl)) (wd_and1 (td_cmp o_gt (ed_o (B := ⟨⟨W, T⟩, F, H⟩) (k := 1) O__law_draw bp__law_draw (hr.mono (by decide)) hx hE (ad_cons (ed_var 0 (pv 0)) (ad_cons ed_int ad_nil))).toB ed_int.toB (nomark _)))).t (sds_one (sd_ret (ed_bin o_sub (ed_bin o_add (ed_bin o_fdiv (ed_ix (ed_ix (ed_var 4 (pv 4)).toB (ed_var 2 (pv 2)).toB).toB ed_int.toB).toB (ed_var 3 (pv 3)).toB).toB (ed_o (B := ⟨⟨W, T⟩, F, H⟩) (k := 1) O__law_draw bp__law_draw (hr.mono (by decide)) hx hE (ad_cons (ed_var 0 (pv 0)) (ad_cons ed_int ad_nil))).toB).toB ed_int.toB))) sds_nil)
      (sds_one (sd_ret (ed_o (B := ⟨⟨W, T⟩, F, H⟩) (k := 2) O__law_number bp__law_number (hr.mono (by decide)) hx hE (ad_cons (ed_var 0 (pv 0)) ad_nil))))))
theorem ok_next_bar {f : Addr} {fd : FuncData} (bt : Bt mg) (ct : Ct K mg) (hm : mg "next_bar" = some (.ref f)) (F : Fun K "next_bar" "next_bar" (top 24) f fd) (O_is_long : OkD P w K mg base T "is_long" (top 23) 3 ["floor", "bar"] sp_is_long) : OkD P w K mg base T "next_bar" (top 24) 4 ["floor", "bar"] sp_next_bar := by
  refine ⟨f, fd, hm, F, okD (g := g_next_bar) F sc_next_bar len_next_bar (fun cdv A outer s H E W F R hr hE hp hx => ?_) law_next_bar⟩
  have nd := sc_next_bar.nd
  have hu65 := hu65_of hr
  exact (sds_cons (sd_setT (is := [2, 3, 4]) rfl (na_cons (pg_name (i := 2) nd rfl (Or.inl rfl)) (na_cons (pg_name (i := 3) nd rfl (Or.inl rfl)) (na_cons (pg_name (i := 4) nd rfl (Or.inl rfl)) na_nil))) (ed_var 1 (pv 1)))
      (sds_one (sd_ret (ed_if (td_val (ed_o (B := ⟨⟨W, T⟩, F, H⟩) (k := 3) O_is_long bp_is_long (hr.mono (by decide)) hx hE (ad_cons (ed_var 0 (pv 0)) (ad_cons (ed_var 1 (pv 1)) ad_nil))).toB) (ed_tup (ad_cons (ed_var 2 (pv 2)) (ad_cons (ed_bin o_add (ed_var 3 (pv 3)).toB ed_int.toB) (ad_cons (ed_var 4 (pv 4)) ad_nil)))) (ed_tup (ad_cons (ed_var 2 (pv 2)) (ad_cons (ed_var 3 (pv 3)) (ad_cons (ed_bin o_add (ed_var 4 (pv 4)).toB ed_int.toB) ad_nil))))))))
theorem ok_bar_by {f : Addr} {fd : FuncData} (bt : Bt mg) (ct : Ct K mg) (hm : mg "bar_by" = some (.ref f)) (F : Fun K "bar_by" "bar_by" (top 25) f fd) (O_floor_has_bar : OkD P w K mg base T "floor_has_bar" (top 22) 3 ["floor", "bar"] sp_floor_has_bar) (O_floor_integer : OkD P w K mg base T "floor_integer" (top 15) 1 ["one"] sp_floor_integer) (O_times_less : OkD P w K mg base T "times_less" (top 12) 1 ["one"] sp_times_less) : OkD P w K mg base T "bar_by" (top 25) 4 ["floor", "j", "number"] sp_bar_by := by
  refine ⟨f, fd, hm, F, okD (g := g_bar_by) F sc_bar_by len_bar_by (fun cdv A outer s H E W F R hr hE hp hx => ?_) law_bar_by⟩
  have nd := sc_bar_by.nd
  have hu65 := hu65_of hr
  exact (sds_cons (sd_setT (is := [3, 4, 5]) rfl (na_cons (pg_name (i := 3) nd rfl (Or.inl rfl)) (na_cons (pg_name (i := 4) nd rfl (Or.inl rfl)) (na_cons (pg_name (i := 5) nd rfl (Or.inl rfl)) na_nil))) (ed_ix (ed_fld ct.fld (ed_var 0 (pv 0)).toB).toB (ed_var 1 (pv 1)).toB))
      (sds_cons (sd_set (i := 6) nd rfl (Or.inl rfl) (ed_bin o_add (ed_o (B := ⟨⟨W, T⟩, F, H⟩) (k := 1) O_floor_integer bp_floor_integer (hr.mono (by decide)) hx hE (ad_cons (ed_o (B := ⟨⟨W, T⟩, F, H⟩) (k := 1) O_times_less bp_times_less (hr.mono (by decide)) hx hE (ad_cons (ed_tup (ad_cons (ed_bin o_sub (ed_bin o_mul (ed_bin o_sub (ed_var 2 (pv 2)).toB ed_int.toB).toB (ed_var 5 (pv 5)).toB).toB (ed_var 3 (pv 3)).toB) (ad_cons (ed_un o_neg (ed_var 4 (pv 4)).toB) (ad_cons (ed_var 5 (pv 5)) ad_nil)))) ad_nil)) ad_nil)).toB ed_int.toB))
      (sds_cons (sd_set (i := 7) nd rfl (Or.inl rfl) (ed_tup (ad_cons (ed_var 1 (pv 1)) (ad_cons (ed_var 6 (pv 6)) (ad_cons (ed_bin o_sub (ed_var 2 (pv 2)).toB (ed_var 6 (pv 6)).toB) ad_nil)))))
      (sds_cons (sd_if (td_val (ed_o (B := ⟨⟨W, T⟩, F, H⟩) (k := 3) O_floor_has_bar bp_floor_has_bar (hr.mono (by decide)) hx hE (ad_cons (ed_var 0 (pv 0)) (ad_cons (ed_var 7 (pv 7)) ad_nil))).toB) (sds_one (sd_ret (ed_var 7 (pv 7)))) sds_nil)
      (sds_one (sd_ret (ed_tup (ad_cons (ed_var 1 (pv 1)) (ad_cons (ed_bin o_sub (ed_var 6 (pv 6)).toB ed_int.toB) (ad_cons (ed_bin o_add (ed_bin o_sub (ed_var 2 (pv 2)).toB (ed_var 6 (pv 6)).toB).toB ed_int.toB) ad_nil))))))))))
theorem ok_point_with {f : Addr} {fd : FuncData} (bt : Bt mg) (ct : Ct K mg) (hm : mg "point_with" = some (.ref f)) (F : Fun K "point_with" "point_with" (top 28) f fd) (O_in_order : OkD P w K mg base T "in_order" (top 18) 1 ["r", "s"] sp_in_order) (O_times_g : OkD P w K mg base T "times_g" (top 11) 1 ["one"] sp_times_g) (O_taken : OkD P w K mg base T "taken" (top 9) 3 ["one", "other"] sp_taken) (O_added : OkD P w K mg base T "added" (top 8) 2 ["one", "other"] sp_added) (O_times_less : OkD P w K mg base T "times_less" (top 12) 1 ["one"] sp_times_less) (O_normal : OkD P w K mg base T "normal" (top 4) 1 ["a", "b", "d"] sp_normal) : OkD P w K mg base T "point_with" (top 28) 4 ["j", "one", "i", "other"] sp_point_with := by
  refine ⟨f, fd, hm, F, okD (g := g_point_with) F sc_point_with len_point_with (fun cdv A outer s H E W F R hr hE hp hx => ?_) law_point_with⟩
  have nd := sc_point_with.nd
  have hu65 := hu65_of hr
  exact (sds_cons (sd_setT (is := [4, 5]) rfl (na_cons (pg_name (i := 4) nd rfl (Or.inl rfl)) (na_cons (pg_name (i := 5) nd rfl (Or.inl rfl)) na_nil)) (ed_o (B := ⟨⟨W, T⟩, F, H⟩) (k := 1) O_in_order bp_in_order (hr.mono (by decide)) hx hE (ad_cons (ed_var 0 (pv 0)) (ad_cons (ed_var 2 (pv 2)) ad_nil))))
      (sds_cons (sd_setL (i := 6) nd rfl (Or.inl rfl) (fd_bin o_repF (fd_lst (ad_cons ed_non ad_nil)).toE.toB ed_int.toB))
      (sds_cons (sd_setX (gx_tup rfl (gxs_cons (gx_item (pv 6) (ed_var 0 (pv 0)).toB) (gxs_cons (gx_item (pv 6) (ed_var 2 (pv 2)).toB) gxs_nil))) (ed_tup (ad_cons (ed_var 1 (pv 1)) (ad_cons (ed_var 3 (pv 3)) ad_nil))))
      (sds_cons (sd_if (td_cmp (o_eq hr.units) (ed_bin o_mod (ed_bin o_sub (ed_var 5 (pv 5)).toB (ed_var 4 (pv 4)).toB).toB ed_int.toB).toB ed_int.toB (nomark _)) (sds_cons (sd_set (i := 8) nd rfl (Or.inl rfl) (ed_bin o_mod (ed_bin o_add (ed_var 4 (pv 4)).toB ed_int.toB).toB ed_int.toB))
      (sds_cons (sd_setI (pv 6) (ed_o (B := ⟨⟨W, T⟩, F, H⟩) (k := 1) O_times_g bp_times_g (hr.mono (by decide)) hx hE (ad_cons (ed_o (B := ⟨⟨W, T⟩, F, H⟩) (k := 2) O_added bp_added (hr.mono (by decide)) hx hE (ad_cons (ed_var 1 (pv 1)) (ad_cons (ed_var 3 (pv 3)) ad_nil))) ad_nil)) (ed_var 8 (pv 8)).toB)
      (sds_one (sd_set (i := 5) nd rfl (Or.inl rfl) (ed_var 8 (pv 8)))))) sds_nil)
      (sds_cons (sd_for hp rfl (pid_rng1 (by rfl) bt.b_range (ad_cons ed_int ad_nil)) (gd_name (pg_name (i := 7) nd rfl (Or.inl rfl))) (sds_cons (sd_set (i := 9) nd rfl (Or.inl rfl) (ed_bin o_mod (ed_bin o_add (ed_var 5 (pv 5)).toB ed_int.toB).toB ed_int.toB))
      (sds_cons (sd_setI (pv 6) (ed_o (B := ⟨⟨W, T⟩, F, H⟩) (k := 3) O_taken bp_taken (hr.mono (by decide)) hx hE (ad_cons (ed_o (B := ⟨⟨W, T⟩, F, H⟩) (k := 1) O_times_less bp_times_less (hr.mono (by decide)) hx hE (ad_cons (ed_ix (bd_var 6 (pv 6)) (ed_var 5 (pv 5)).toB) ad_nil)) (ad_cons (ed_ix (bd_var 6 (pv 6)) (ed_var 4 (pv 4)).toB) ad_nil))) (ed_var 9 (pv 9)).toB)
      (sds_one (sd_par2 (i := 4) (j := 5) rfl nd rfl rfl (by decide) rfl rfl (ad_cons (ed_var 5 (pv 5)) (ad_cons (ed_var 9 (pv 9)) ad_nil)) (by rfl))))))
      (sds_one (sd_fz 6 (sd_ret (ed_callTy c_tuple (by rfl) bt.b_tuple nbTuple (abd_cons (fd_lc (own := [("part", 10)]) rfl nd (pid_data (ed_var 6 (pv 6))) (blkOk_by (own := [("part", 10)]) (N := ["j", "one", "i", "other", "first", "second", "found", "_", "middle", "behind", "part"]) (sc := defScope (top 28)) (by decide +kernel)) (ct_name (by decide)) (fun _ _ _ _ _ => pg_name (i := 10) nd rfl (Or.inl rfl)) (fun _ _ _ _ _ => tds_nil) (fun _ _ _ _ _ => (ed_o (B := ⟨⟨W, T⟩, F, H⟩) (k := 1) O_normal bp_normal (hr.mono (by decide)) passL FinE.none (ad_cons (ed_ix (ed_var 10 (pv 10)).toB ed_int.toB) (ad_cons (ed_ix (ed_var 10 (pv 10)).toB ed_int.toB) (ad_cons (ed_ix (ed_var 10 (pv 10)).toB ed_int.toB) ad_nil)))))).toE.toB abd_nil))))))))))
theorem ok_keys_from {f : Addr} {fd : FuncData} (bt : Bt mg) (ct : Ct K mg) (hm : mg "keys_from" = some (.ref f)) (F : Fun K "keys_from" "keys_from" (top 48) f fd) (O_normal : OkD P w K mg base T "normal" (top 4) 1 ["a", "b", "d"] sp_normal) (O_taken : OkD P w K mg base T "taken" (top 9) 3 ["one", "other"] sp_taken) (O_negative : OkD P w K mg base T "negative" (top 7) 1 ["one"] sp_negative) (O_times_g : OkD P w K mg base T "times_g" (top 11) 1 ["one"] sp_times_g) : OkD P w K mg base T "keys_from" (top 48) 4 ["one", "other"] sp_keys_from := by
  refine ⟨f, fd, hm, F, okD (g := g_keys_from) F sc_keys_from len_keys_from (fun cdv A outer s H E W F R hr hE hp hx => ?_) law_keys_from⟩
  have nd := sc_keys_from.nd
  have hu65 := hu65_of hr
  exact (sds_cons (sd_setL (i := 2) nd rfl (Or.inl rfl) (fd_lst (ad_cons (ed_o (B := ⟨⟨W, T⟩, F, H⟩) (k := 1) O_normal bp_normal (hr.mono (by decide)) hx hE (ad_cons (ed_ix (ed_var 0 (pv 0)).toB ed_int.toB) (ad_cons (ed_ix (ed_var 0 (pv 0)).toB ed_int.toB) (ad_cons (ed_ix (ed_var 0 (pv 0)).toB ed_int.toB) ad_nil)))) (ad_cons (ed_o (B := ⟨⟨W, T⟩, F, H⟩) (k := 1) O_normal bp_normal (hr.mono (by decide)) hx hE (ad_cons (ed_ix (ed_var 1 (pv 1)).toB ed_int.toB) (ad_cons (ed_ix (ed_var 1 (pv 1)).toB ed_int.toB) (ad_cons (ed_ix (ed_var 1 (pv 1)).toB ed_int.toB) ad_nil)))) ad_nil))))
      (sds_cons (sd_for hp rfl (pid_rng2 (by rfl) bt.b_range (ad_cons ed_int (ad_cons ed_int ad_nil))) (gd_name (pg_name (i := 3) nd rfl (Or.inl rfl))) (sds_one (sd_appE (pv 2) (ed_o (B := ⟨⟨W, T⟩, F, H⟩) (k := 3) O_taken bp_taken (hr.mono (by decide)) hx hE (ad_cons (ed_o (B := ⟨⟨W, T⟩, F, H⟩) (k := 1) O_negative bp_negative (hr.mono (by decide)) hx hE (ad_cons (ed_o (B := ⟨⟨W, T⟩, F, H⟩) (k := 1) O_times_g bp_times_g (hr.mono (by decide)) hx hE (ad_cons (ed_ix (bd_var 2 (pv 2)) (ed_var 3 (pv 3)).toB) ad_nil)) ad_nil)) (ad_cons (ed_ix (bd_var 2 (pv 2)) (ed_bin o_sub (ed_var 3 (pv 3)).toB ed_int.toB).toB) ad_nil))))))
      (sds_one (sd_ret (ed_callTy c_tuple (by rfl) bt.b_tuple nbTuple (abd_cons (bd_var 2 (pv 2)) abd_nil))))))
theorem ok_is_side {f : Addr} {fd : FuncData} (bt : Bt mg) (ct : Ct K mg) (hm : mg "is_side" = some (.ref f)) (F : Fun K "is_side" "is_side" (top 51) f fd) (O_sides_of : OkD P w K mg base T "sides_of" (top 50) 3 ["keys"] sp_sides_of) (O_is_integer : OkD P w K mg base T "is_integer" (top 2) 1 ["thing"] sp_is_integer) : OkD P w K mg base T "is_side" (top 51) 4 ["keys", "thing"] sp_is_side := by
  refine ⟨f, fd, hm, F, okD (g := g_is_side) F sc_is_side len_is_side (fun cdv A outer s H E W F R hr hE hp hx => ?_) law_is_side⟩
  have nd := sc_is_side.nd
  have hu65 := hu65_of hr
  exact (sds_cons (sd_if (wd_or (td_not (td_val (ed_callB (c_isiX ct.ob) (by rfl) bt.b_isinstance nbIsi (abd_cons (ed_var 1 (pv 1)).toB (abd_cons (ed_ty (by rfl) bt.b_tuple nbTuple).toB abd_nil))).toB)) (wd_or (td_cmp (o_ne hr.units) (ed_callB c_len (by rfl) bt.b_len nbLen (abd_cons (ed_var 1 (pv 1)).toB abd_nil)).toB ed_int.toB (nomark _)) (wd_or1 (td_not (td_val (ed_callB (c_all rfl) (by rfl) bt.b_all nbAll (abd_cons (fd_lc (own := [("part", 2)]) rfl nd (pid_data (ed_var 1 (pv 1))) (blkOk_by (own := [("part", 2)]) (N := ["keys", "thing", "part"]) (sc := defScope (top 51)) (by decide +kernel)) (ct_name (by decide)) (fun _ _ _ _ _ => pg_name (i := 2) nd rfl (Or.inl rfl)) (fun _ _ _ _ _ => tds_nil) (fun _ _ _ _ _ => (ed_o (B := ⟨⟨W, T⟩, F, H⟩) (k := 1) O_is_integer bp_is_integer (hr.mono (by decide)) passL FinE.none (ad_cons (ed_var 2 (pv 2)) ad_nil)))).toE.toB abd_nil)).toB))))).t (sds_one (sd_ret ed_bl)) sds_nil)
      (sds_one (sd_ret (ed_cmp (o_in hu65) (ed_var 1 (pv 1)).toB (ed_o (B := ⟨⟨W, T⟩, F, H⟩) (k := 3) O_sides_of bp_sides_of (hr.mono (by decide)) hx hE (ad_cons (ed_var 0 (pv 0)) ad_nil)).toB (by rfl)))))
theorem ok_need_bar {f : Addr} {fd : FuncData} (bt : Bt mg) (ct : Ct K mg) (hm : mg "need_bar" = some (.ref f)) (F : Fun K "need_bar" "need_bar" (top 57) f fd) (O_is_bar : OkD P w K mg base T "is_bar" (top 56) 3 ["thing"] sp_is_bar) : OkD P w K mg base T "need_bar" (top 57) 4 ["bar"] sp_need_bar := by
  obtain ⟨C_BadBar, fI_BadBar, T_BadBar, N_BadBar⟩ := ct.er_BadBar
  refine ⟨f, fd, hm, F, okD (g := g_need_bar) F sc_need_bar len_need_bar (fun cdv A outer s H E W F R hr hE hp hx => ?_) law_need_bar⟩
  have nd := sc_need_bar.nd
  have hu65 := hu65_of hr
  exact (sds_one (sd_if (td_not (td_val (ed_o (B := ⟨⟨W, T⟩, F, H⟩) (k := 3) O_is_bar bp_is_bar (hr.mono (by decide)) hx hE (ad_cons (ed_var 0 (pv 0)) ad_nil)).toB)) (sds_one (sd_raise rfl T_BadBar N_BadBar hr (takes_of rfl rfl rfl rfl) hE (ed_var 0 (pv 0)))) sds_nil))
theorem ok_has_bar {f : Addr} {fd : FuncData} (bt : Bt mg) (ct : Ct K mg) (hm : mg "has_bar" = some (.ref f)) (F : Fun K "has_bar" "has_bar" (top 59) f fd) (O_is_bar : OkD P w K mg base T "is_bar" (top 56) 3 ["thing"] sp_is_bar) (O_floor_has_bar : OkD P w K mg base T "floor_has_bar" (top 22) 3 ["floor", "bar"] sp_floor_has_bar) : OkD P w K mg base T "has_bar" (top 59) 4 ["floor", "thing"] sp_has_bar := by
  refine ⟨f, fd, hm, F, okD (g := g_has_bar) F sc_has_bar len_has_bar (fun cdv A outer s H E W F R hr hE hp hx => ?_) law_has_bar⟩
  have nd := sc_has_bar.nd
  have hu65 := hu65_of hr
  exact (sds_one (sd_ret (ed_and (ed_o (B := ⟨⟨W, T⟩, F, H⟩) (k := 3) O_is_bar bp_is_bar (hr.mono (by decide)) hx hE (ad_cons (ed_var 1 (pv 1)) ad_nil)) (ed_one (ed_o (B := ⟨⟨W, T⟩, F, H⟩) (k := 3) O_floor_has_bar bp_floor_has_bar (hr.mono (by decide)) hx hE (ad_cons (ed_var 0 (pv 0)) (ad_cons (ed_var 1 (pv 1)) ad_nil)))))))
theorem ok__law_below {f : Addr} {fd : FuncData} (bt : Bt mg) (ct : Ct K mg) (hm : mg "_law_below" = some (.ref f)) (F : Fun K "_law_below" "_law_below" (top 89) f fd) (O__law_under : OkD P w K mg base T "_law_under" (top 75) 2 ["_law_a", "_law_b", "_law_d"] sp__law_under) (O__law_compared : OkD P w K mg base T "_law_compared" (top 88) 2 ["_law_bar_here", "_law_height_here"] sp__law_compared) (O__law_bar : OkD P w K mg base T "_law_bar" (top 84) 3 ["_law_world_here", "_law_j", "_law_number_here"] sp__law_bar) : OkD P w K mg base T "_law_below" (top 89) 4 ["_law_world_here", "_law_j", "_law_height_here"] sp__law_below := by
  refine ⟨f, fd, hm, F, okD (g := g__law_below) F sc__law_below len__law_below (fun cdv A outer s H E W F R hr hE hp hx => ?_) law__law_below⟩
  have nd := sc__law_below.nd
  have hu65 := hu65_of hr
  exact (sds_cons (sd_setT (is := [3, 4, 5]) rfl (na_cons (pg_name (i := 3) nd rfl (Or.inl rfl)) (na_cons (pg_name (i := 4) nd rfl (Or.inl rfl)) (na_cons (pg_name (i := 5) nd rfl (Or.inl rfl)) na_nil))) (ed_var 0 (pv 0)))
      (sds_cons (sd_setT (is := [6, 7, 8]) rfl (na_cons (pg_name (i := 6) nd rfl (Or.inl rfl)) (na_cons (pg_name (i := 7) nd rfl (Or.inl rfl)) (na_cons (pg_name (i := 8) nd rfl (Or.inl rfl)) na_nil))) (ed_var 2 (pv 2)))
      (sds_cons (sd_set (i := 9) nd rfl (Or.inl rfl) (ed_bin o_add (ed_bin o_mul (ed_bin o_mul ed_int.toB (ed_var 6 (pv 6)).toB).toB (ed_var 3 (pv 3)).toB).toB (ed_bin o_mul (ed_var 8 (pv 8)).toB (ed_bin o_add (ed_bin o_sub (ed_bin o_mul ed_int.toB (ed_var 3 (pv 3)).toB).toB (ed_bin o_mul ed_int.toB (ed_ix (ed_ix (ed_var 4 (pv 4)).toB (ed_var 1 (pv 1)).toB).toB ed_int.toB).toB).toB).toB (ed_bin o_mul ed_int.toB (ed_ix (ed_ix (ed_var 4 (pv 4)).toB (ed_var 1 (pv 1)).toB).toB ed_int.toB).toB).toB).toB).toB))
      (sds_cons (sd_set (i := 10) nd rfl (Or.inl rfl) (ed_bin o_sub (ed_bin o_mul (ed_bin o_mul ed_int.toB (ed_var 7 (pv 7)).toB).toB (ed_var 3 (pv 3)).toB).toB (ed_bin o_mul (ed_var 8 (pv 8)).toB (ed_bin o_add (ed_bin o_add (ed_var 3 (pv 3)).toB (ed_bin o_mul ed_int.toB (ed_ix (ed_ix (ed_var 4 (pv 4)).toB (ed_var 1 (pv 1)).toB).toB ed_int.toB).toB).toB).toB (ed_bin o_mul ed_int.toB (ed_ix (ed_ix (ed_var 4 (pv 4)).toB (ed_var 1 (pv 1)).toB).toB ed_int.toB).toB).toB).toB).toB))
      (sds_cons (sd_set (i := 11) nd rfl (Or.inl rfl) (ed_o (B := ⟨⟨W, T⟩, F, H⟩) (k := 2) O__law_under bp__law_under (hr.mono (by decide)) hx hE (ad_cons (ed_var 9 (pv 9)) (ad_cons (ed_var 10 (pv 10)) (ad_cons (ed_bin o_mul (ed_bin o_mul ed_int.toB (ed_var 3 (pv 3)).toB).toB (ed_var 8 (pv 8)).toB) ad_nil)))))
      (sds_cons (sd_set (i := 12) nd rfl (Or.inl rfl) (ed_bin o_sub (ed_bin o_add (ed_var 11 (pv 11)).toB (ed_o (B := ⟨⟨W, T⟩, F, H⟩) (k := 2) O__law_under bp__law_under (hr.mono (by decide)) hx hE (ad_cons (ed_bin o_sub (ed_ix (ed_ix (ed_var 4 (pv 4)).toB (ed_var 1 (pv 1)).toB).toB ed_int.toB).toB (ed_bin o_mul (ed_var 3 (pv 3)).toB (ed_var 11 (pv 11)).toB).toB) (ad_cons (ed_bin o_add (ed_ix (ed_ix (ed_var 4 (pv 4)).toB (ed_var 1 (pv 1)).toB).toB ed_int.toB).toB (ed_bin o_mul (ed_var 3 (pv 3)).toB (ed_var 11 (pv 11)).toB).toB) (ad_cons (ed_var 3 (pv 3)) ad_nil)))).toB).toB ed_int.toB))
      (sds_cons (sd_for hp rfl (pid_rng1 (by rfl) bt.b_range (ad_cons ed_int ad_nil)) (gd_name (pg_name (i := 13) nd rfl (Or.inl rfl))) (sds_one (sd_if (td_cmp o_le (ed_o (B := ⟨⟨W, T⟩, F, H⟩) (k := 2) O__law_compared bp__law_compared (hr.mono (by decide)) hx hE (ad_cons (ed_o (B := ⟨⟨W, T⟩, F, H⟩) (k := 3) O__law_bar bp__law_bar (hr.mono (by decide)) hx hE (ad_cons (ed_var 0 (pv 0)) (ad_cons (ed_var 1 (pv 1)) (ad_cons (ed_bin o_add (ed_var 12 (pv 12)).toB ed_int.toB) ad_nil)))) (ad_cons (ed_var 2 (pv 2)) ad_nil))).toB ed_int.toB (nomark _)) (sds_one (sd_set (i := 12) nd rfl (Or.inl rfl) (ed_bin o_add (ed_var 12 (pv 12)).toB ed_int.toB))) sds_nil)))
      (sds_one (sd_ret (ed_var 12 (pv 12)))))))))))
theorem ok__law_height {f : Addr} {fd : FuncData} (bt : Bt mg) (ct : Ct K mg) (hm : mg "_law_height" = some (.ref f)) (F : Fun K "_law_height" "_law_height" (top 90) f fd) (O__law_bar_height : OkD P w K mg base T "_law_bar_height" (top 85) 1 ["_law_bar_here"] sp__law_bar_height) (O__law_pick : OkD P w K mg base T "_law_pick" (top 70) 2 ["_law_deck_here", "_law_some"] sp__law_pick) (O__law_bar : OkD P w K mg base T "_law_bar" (top 84) 3 ["_law_world_here", "_law_j", "_law_number_here"] sp__law_bar) (O__law_draw : OkD P w K mg base T "_law_draw" (top 69) 1 ["_law_deck_here", "_law_many"] spDraw) : OkD P w K mg base T "_law_height" (top 90) 4 ["_law_deck_here", "_law_world_here", "_law_j", "_law_number_here"] sp__law_height := by
  refine ⟨f, fd, hm, F, okD (g := g__law_height) F sc__law_height len__law_height (fun cdv A outer s H E W F R hr hE hp hx => ?_) law__law_height⟩
  have nd := sc__law_height.nd
  have hu65 := hu65_of hr
  exact (sds_cons (sd_setT (is := [4, 5]) rfl (na_cons (pg_name (i := 4) nd rfl (Or.inl rfl)) (na_cons (pg_name (i := 5) nd rfl (Or.inl rfl)) na_nil)) (ed_o (B := ⟨⟨W, T⟩, F, H⟩) (k := 1) O__law_bar_height bp__law_bar_height (hr.mono (by decide)) hx hE (ad_cons (ed_o (B := ⟨⟨W, T⟩, F, H⟩) (k := 3) O__law_bar bp__law_bar (hr.mono (by decide)) hx hE (ad_cons (ed_var 1 (pv 1)) (ad_cons (ed_var 2 (pv 2)) (ad_cons (ed_var 3 (pv 3)) ad_nil)))) ad_nil)))
      (sds_cons (sd_set (i := 6) nd rfl (Or.inl rfl) (ed_o (B := ⟨⟨W, T⟩, F, H⟩) (k := 2) O__law_pick bp__law_pick (hr.mono (by decide)) hx hE (ad_cons (ed_var 0 (pv 0)) (ad_cons (ed_tup (ad_cons ed_int (ad_cons ed_int (ad_cons ed_int (ad_cons ed_int (ad_cons ed_int ad_nil)))))) ad_nil))))
      (sds_cons (sd_if (td_cmp (o_eq hr.units) (ed_o (B := ⟨⟨W, T⟩, F, H⟩) (k := 1) O__law_draw bp__law_draw (hr.mono (by decide)) hx hE (ad_cons (ed_var 0 (pv 0)) (ad_cons ed_int ad_nil))).toB ed_int.toB (nomark _)) (sds_one (sd_ret (ed_tup (ad_cons (ed_bin o_mul (ed_var 4 (pv 4)).toB (ed_var 6 (pv 6)).toB) (ad_cons (ed_bin o_mul (ed_var 5 (pv 5)).toB (ed_var 6 (pv 6)).toB) (ad_cons (ed_bin o_mul ed_int.toB (ed_var 6 (pv 6)).toB) ad_nil)))))) sds_nil)
      (sds_one (sd_ret (ed_tup (ad_cons (ed_bin o_sub (ed_bin o_add (ed_bin o_mul (ed_var 4 (pv 4)).toB (ed_var 6 (pv 6)).toB).toB (ed_o (B := ⟨⟨W, T⟩, F, H⟩) (k := 1) O__law_draw bp__law_draw (hr.mono (by decide)) hx hE (ad_cons (ed_var 0 (pv 0)) (ad_cons ed_int ad_nil))).toB).toB ed_int.toB) (ad_cons (ed_bin o_sub (ed_bin o_add (ed_bin o_mul (ed_var 5 (pv 5)).toB (ed_var 6 (pv 6)).toB).toB (ed_o (B := ⟨⟨W, T⟩, F, H⟩) (k := 1) O__law_draw bp__law_draw (hr.mono (by decide)) hx hE (ad_cons (ed_var 0 (pv 0)) (ad_cons ed_int ad_nil))).toB).toB ed_int.toB) (ad_cons (ed_bin o_mul ed_int.toB (ed_var 6 (pv 6)).toB) ad_nil)))))))))
theorem ok_bar_below_by {f : Addr} {fd : FuncData} (bt : Bt mg) (ct : Ct K mg) (hm : mg "bar_below_by" = some (.ref f)) (F : Fun K "bar_below_by" "bar_below_by" (top 27) f fd) (O_taken : OkD P w K mg base T "taken" (top 9) 3 ["one", "other"] sp_taken) (O_floor_integer : OkD P w K mg base T "floor_integer" (top 15) 1 ["one"] sp_floor_integer) (O_bar_by : OkD P w K mg base T "bar_by" (top 25) 4 ["floor", "j", "number"] sp_bar_by) (O_next_bar : OkD P w K mg base T "next_bar" (top 24) 4 ["floor", "bar"] sp_next_bar) (O_added : OkD P w K mg base T "added" (top 8) 2 ["one", "other"] sp_added) (O_multiplied : OkD P w K mg base T "multiplied" (top 10) 2 ["one", "other"] sp_multiplied) (O_divided : OkD P w K mg base T "divided" (top 13) 3 ["one", "other"] sp_divided) (O_compared : OkD P w K mg base T "compared" (top 6) 2 ["one", "other"] sp_compared) (O_height_by : OkD P w K mg base T "height_by" (top 26) 2 ["bar"] sp_height_by) : OkD P w K mg base T "bar_below_by" (top 27) 5 ["floor", "j", "height"] sp_bar_below_by := by
  refine ⟨f, fd, hm, F, okD (g := g_bar_below_by) F sc_bar_below_by len_bar_below_by (fun cdv A outer s H E W F R hr hE hp hx => ?_) law_bar_below_by⟩
  have nd := sc_bar_below_by.nd
  have hu65 := hu65_of hr
  exact (sds_cons (sd_set (i := 3) nd rfl (Or.inl rfl) (ed_ix (ed_fld ct.fld (ed_var 0 (pv 0)).toB).toB (ed_var 1 (pv 1)).toB))
      (sds_cons (sd_set (i := 4) nd rfl (Or.inl rfl) (ed_o (B := ⟨⟨W, T⟩, F, H⟩) (k := 3) O_taken bp_taken (hr.mono (by decide)) hx hE (ad_cons (ed_o (B := ⟨⟨W, T⟩, F, H⟩) (k := 2) O_added bp_added (hr.mono (by decide)) hx hE (ad_cons (ed_o (B := ⟨⟨W, T⟩, F, H⟩) (k := 2) O_added bp_added (hr.mono (by decide)) hx hE (ad_cons (ed_var 2 (pv 2)) (ad_cons (ed_var 2 (pv 2)) ad_nil))) (ad_cons (ed_tup (ad_cons ed_int (ad_cons ed_int (ad_cons ed_int ad_nil)))) ad_nil))) (ad_cons (ed_o (B := ⟨⟨W, T⟩, F, H⟩) (k := 2) O_multiplied bp_multiplied (hr.mono (by decide)) hx hE (ad_cons (ed_tup (ad_cons (ed_un o_neg ed_int.toB) (ad_cons ed_int (ad_cons ed_int ad_nil)))) (ad_cons (ed_var 3 (pv 3)) ad_nil))) ad_nil))))
      (sds_cons (sd_set (i := 5) nd rfl (Or.inl rfl) (ed_o (B := ⟨⟨W, T⟩, F, H⟩) (k := 1) O_floor_integer bp_floor_integer (hr.mono (by decide)) hx hE (ad_cons (ed_o (B := ⟨⟨W, T⟩, F, H⟩) (k := 3) O_divided bp_divided (hr.mono (by decide)) hx hE (ad_cons (ed_var 4 (pv 4)) (ad_cons (ed_tup (ad_cons ed_int (ad_cons ed_int (ad_cons ed_int ad_nil)))) ad_nil))) ad_nil)))
      (sds_cons (sd_set (i := 6) nd rfl (Or.inl rfl) (ed_o (B := ⟨⟨W, T⟩, F, H⟩) (k := 4) O_bar_by bp_bar_by (hr.mono (by decide)) hx hE (ad_cons (ed_var 0 (pv 0)) (ad_cons (ed_var 1 (pv 1)) (ad_cons (ed_bin o_add (ed_var 5 (pv 5)).toB (ed_o (B := ⟨⟨W, T⟩, F, H⟩) (k := 1) O_floor_integer bp_floor_integer (hr.mono (by decide)) hx hE (ad_cons (ed_o (B := ⟨⟨W, T⟩, F, H⟩) (k := 2) O_added bp_added (hr.mono (by decide)) hx hE (ad_cons (ed_tup (ad_cons (ed_un o_neg (ed_var 5 (pv 5)).toB) (ad_cons (ed_var 5 (pv 5)) (ad_cons ed_int ad_nil)))) (ad_cons (ed_var 3 (pv 3)) ad_nil))) ad_nil)).toB) ad_nil)))))
      (sds_cons (sd_while hp (td_cmp o_gt (ed_o (B := ⟨⟨W, T⟩, F, H⟩) (k := 2) O_compared bp_compared (hr.mono (by decide)) hx hE (ad_cons (ed_o (B := ⟨⟨W, T⟩, F, H⟩) (k := 2) O_height_by bp_height_by (hr.mono (by decide)) hx hE (ad_cons (ed_var 6 (pv 6)) ad_nil)) (ad_cons (ed_var 2 (pv 2)) ad_nil))).toB ed_int.toB (nomark _)) (sds_one (sd_set (i := 6) nd rfl (Or.inl rfl) (ed_o (B := ⟨⟨W, T⟩, F, H⟩) (k := 4) O_bar_by bp_bar_by (hr.mono (by decide)) hx hE (ad_cons (ed_var 0 (pv 0)) (ad_cons (ed_var 1 (pv 1)) (ad_cons (ed_bin o_sub (ed_bin o_add (ed_ix (ed_var 6 (pv 6)).toB ed_int.toB).toB (ed_ix (ed_var 6 (pv 6)).toB ed_int.toB).toB).toB ed_int.toB) ad_nil)))))))
      (sds_cons (sd_set (i := 7) nd rfl (Or.inl rfl) (ed_o (B := ⟨⟨W, T⟩, F, H⟩) (k := 4) O_next_bar bp_next_bar (hr.mono (by decide)) hx hE (ad_cons (ed_var 0 (pv 0)) (ad_cons (ed_var 6 (pv 6)) ad_nil))))
      (sds_cons (sd_while hp (td_cmp o_le (ed_o (B := ⟨⟨W, T⟩, F, H⟩) (k := 2) O_compared bp_compared (hr.mono (by decide)) hx hE (ad_cons (ed_o (B := ⟨⟨W, T⟩, F, H⟩) (k := 2) O_height_by bp_height_by (hr.mono (by decide)) hx hE (ad_cons (ed_var 7 (pv 7)) ad_nil)) (ad_cons (ed_var 2 (pv 2)) ad_nil))).toB ed_int.toB (nomark _)) (sds_one (sd_par2 (i := 6) (j := 7) rfl nd rfl rfl (by decide) rfl rfl (ad_cons (ed_var 7 (pv 7)) (ad_cons (ed_o (B := ⟨⟨W, T⟩, F, H⟩) (k := 4) O_next_bar bp_next_bar (hr.mono (by decide)) hx hE (ad_cons (ed_var 0 (pv 0)) (ad_cons (ed_var 7 (pv 7)) ad_nil))) ad_nil)) (by rfl))))
      (sds_one (sd_ret (ed_var 6 (pv 6)))))))))))
theorem ok_Floor {f C : Addr} {fd : FuncData} {dvs : List V} (bt : Bt mg) (ct : Ct K mg) (hm : mg "Floor" = some (.ref C)) (M : Mk K C f) (F : FunD K "__init__" "Floor.__init__" (defArgs (methS 52 0)) (defBody (methS 52 0)) (defScope (methS 52 0)) dvs [] f fd) (hd : dvs ≠ []) (hD : ∀ F, Reps ⟨K, mg⟩ F dvs [.tup [.int 0, .int 0, .int 0, .int 0, .int 0]]) (O_keys_from : OkD P w K mg base T "keys_from" (top 48) 4 ["one", "other"] sp_keys_from) (O_is_side : OkD P w K mg base T "is_side" (top 51) 4 ["keys", "thing"] sp_is_side) (O_is_number : OkD P w K mg base T "is_number" (top 3) 2 ["thing"] sp_is_number) : OkM P w K mg base T "Floor" "Floor.__init__" (methS 52 0) 5 ["one", "other", "side"] [.tup [.int 0, .int 0, .int 0, .int 0, .int 0]] sp_Floor := by
  obtain ⟨C_BadNumber, fI_BadNumber, T_BadNumber, N_BadNumber⟩ := ct.er_BadNumber
  obtain ⟨C_BadSide, fI_BadSide, T_BadSide, N_BadSide⟩ := ct.er_BadSide
  refine ⟨C, f, fd, dvs, hm, M, F, hd, hD, okInit (g := g_Floor) hm F sc_Floor (by decide) len_Floor (fun cdv A outer s H E W F H0 R hr hE hp hx => ?_) law_Floor⟩
  have nd := sc_Floor.nd
  have hu65 := hu65_of hr
  exact (sds_cons (sd_for hp rfl (pid_data (ed_tup (ad_cons (ed_var 1 (pv 1)) (ad_cons (ed_var 2 (pv 2)) ad_nil)))) (gd_name (pg_name (i := 4) nd rfl (Or.inl rfl))) (sds_one (sd_if (td_not (td_val (ed_o (B := ⟨⟨W, T⟩, F, H0⟩) (k := 2) O_is_number bp_is_number (hr.mono (by decide)) hx hE (ad_cons (ed_var 4 (pv 4)) ad_nil)).toB)) (sds_one (sd_raise rfl T_BadNumber N_BadNumber hr (takes_of rfl rfl rfl rfl) hE (ed_var 4 (pv 4)))) sds_nil)))
      (sds_cons (sd_set (i := 5) nd rfl (Or.inl rfl) (ed_o (B := ⟨⟨W, T⟩, F, H0⟩) (k := 4) O_keys_from bp_keys_from (hr.mono (by decide)) hx hE (ad_cons (ed_var 1 (pv 1)) (ad_cons (ed_var 2 (pv 2)) ad_nil))))
      (sds_cons (sd_if (td_not (td_val (ed_o (B := ⟨⟨W, T⟩, F, H0⟩) (k := 4) O_is_side bp_is_side (hr.mono (by decide)) hx hE (ad_cons (ed_var 5 (pv 5)) (ad_cons (ed_var 3 (pv 3)) ad_nil))).toB)) (sds_one (sd_raise rfl T_BadSide N_BadSide hr (takes_of rfl rfl rfl rfl) hE (ed_var 3 (pv 3)))) sds_nil)
      (sds_cons (sd_setF ct.fld (pv 0) (ed_var 5 (pv 5)))
      (sds_one (sd_setF ct.fld (pv 0) (ed_var 3 (pv 3))))))))
theorem ok_phase_of {f : Addr} {fd : FuncData} (bt : Bt mg) (ct : Ct K mg) (hm : mg "phase_of" = some (.ref f)) (F : Fun K "phase_of" "phase_of" (top 60) f fd) (O_need_bar : OkD P w K mg base T "need_bar" (top 57) 4 ["bar"] sp_need_bar) (O_raw_phase : OkD P w K mg base T "raw_phase" (top 20) 1 ["floor", "bar"] sp_raw_phase) (O_normal : OkD P w K mg base T "normal" (top 4) 1 ["a", "b", "d"] sp_normal) : OkD P w K mg base T "phase_of" (top 60) 5 ["floor", "bar"] sp_phase_of := by
  refine ⟨f, fd, hm, F, okD (g := g_phase_of) F sc_phase_of len_phase_of (fun cdv A outer s H E W F R hr hE hp hx => ?_) law_phase_of⟩
  have nd := sc_phase_of.nd
  have hu65 := hu65_of hr
  exact (sds_cons (sd_drop (ed_o (B := ⟨⟨W, T⟩, F, H⟩) (k := 4) O_need_bar bp_need_bar (hr.mono (by decide)) hx hE (ad_cons (ed_var 1 (pv 1)) ad_nil)).toB)
      (sds_cons (sd_setT (is := [2, 3, 4]) rfl (na_cons (pg_name (i := 2) nd rfl (Or.inl rfl)) (na_cons (pg_name (i := 3) nd rfl (Or.inl rfl)) (na_cons (pg_name (i := 4) nd rfl (Or.inl rfl)) na_nil))) (ed_o (B := ⟨⟨W, T⟩, F, H⟩) (k := 1) O_raw_phase bp_raw_phase (hr.mono (by decide)) hx hE (ad_cons (ed_var 0 (pv 0)) (ad_cons (ed_var 1 (pv 1)) ad_nil))))
      (sds_one (sd_ret (ed_o (B := ⟨⟨W, T⟩, F, H⟩) (k := 1) O_normal bp_normal (hr.mono (by decide)) hx hE (ad_cons (ed_var 2 (pv 2)) (ad_cons (ed_var 3 (pv 3)) (ad_cons (ed_var 4 (pv 4)) ad_nil))))))))
theorem ok_height_of {f : Addr} {fd : FuncData} (bt : Bt mg) (ct : Ct K mg) (hm : mg "height_of" = some (.ref f)) (F : Fun K "height_of" "height_of" (top 61) f fd) (O_need_bar : OkD P w K mg base T "need_bar" (top 57) 4 ["bar"] sp_need_bar) (O_height_by : OkD P w K mg base T "height_by" (top 26) 2 ["bar"] sp_height_by) : OkD P w K mg base T "height_of" (top 61) 5 ["bar"] sp_height_of := by
  refine ⟨f, fd, hm, F, okD (g := g_height_of) F sc_height_of len_height_of (fun cdv A outer s H E W F R hr hE hp hx => ?_) law_height_of⟩
  have nd := sc_height_of.nd
  have hu65 := hu65_of hr
  exact (sds_cons (sd_drop (ed_o (B := ⟨⟨W, T⟩, F, H⟩) (k := 4) O_need_bar bp_need_bar (hr.mono (by decide)) hx hE (ad_cons (ed_var 0 (pv 0)) ad_nil)).toB)
      (sds_one (sd_ret (ed_o (B := ⟨⟨W, T⟩, F, H⟩) (k := 2) O_height_by bp_height_by (hr.mono (by decide)) hx hE (ad_cons (ed_var 0 (pv 0)) ad_nil)))))
theorem ok_crossing_of {f : Addr} {fd : FuncData} (bt : Bt mg) (ct : Ct K mg) (hm : mg "crossing_of" = some (.ref f)) (F : Fun K "crossing_of" "crossing_of" (top 64) f fd) (O_need_bar : OkD P w K mg base T "need_bar" (top 57) 4 ["bar"] sp_need_bar) (O_point_with : OkD P w K mg base T "point_with" (top 28) 4 ["j", "one", "i", "other"] sp_point_with) (O_height_by : OkD P w K mg base T "height_by" (top 26) 2 ["bar"] sp_height_by) : OkD P w K mg base T "crossing_of" (top 64) 5 ["one", "other"] sp_crossing_of := by
  obtain ⟨C_BadBar, fI_BadBar, T_BadBar, N_BadBar⟩ := ct.er_BadBar
  refine ⟨f, fd, hm, F, okD (g := g_crossing_of) F sc_crossing_of len_crossing_of (fun cdv A outer s H E W F R hr hE hp hx => ?_) law_crossing_of⟩
  have nd := sc_crossing_of.nd
  have hu65 := hu65_of hr
  exact (sds_cons (sd_drop (ed_o (B := ⟨⟨W, T⟩, F, H⟩) (k := 4) O_need_bar bp_need_bar (hr.mono (by decide)) hx hE (ad_cons (ed_var 0 (pv 0)) ad_nil)).toB)
      (sds_cons (sd_drop (ed_o (B := ⟨⟨W, T⟩, F, H⟩) (k := 4) O_need_bar bp_need_bar (hr.mono (by decide)) hx hE (ad_cons (ed_var 1 (pv 1)) ad_nil)).toB)
      (sds_cons (sd_if (td_cmp (o_eq hr.units) (ed_ix (ed_var 0 (pv 0)).toB ed_int.toB).toB (ed_ix (ed_var 1 (pv 1)).toB ed_int.toB).toB (nomark _)) (sds_one (sd_raise rfl T_BadBar N_BadBar hr (takes_of rfl rfl rfl rfl) hE (ed_var 1 (pv 1)))) sds_nil)
      (sds_one (sd_ret (ed_o (B := ⟨⟨W, T⟩, F, H⟩) (k := 4) O_point_with bp_point_with (hr.mono (by decide)) hx hE (ad_cons (ed_ix (ed_var 0 (pv 0)).toB ed_int.toB) (ad_cons (ed_o (B := ⟨⟨W, T⟩, F, H⟩) (k := 2) O_height_by bp_height_by (hr.mono (by decide)) hx hE (ad_cons (ed_var 0 (pv 0)) ad_nil)) (ad_cons (ed_ix (ed_var 1 (pv 1)).toB ed_int.toB) (ad_cons (ed_o (B := ⟨⟨W, T⟩, F, H⟩) (k := 2) O_height_by bp_height_by (hr.mono (by decide)) hx hE (ad_cons (ed_var 1 (pv 1)) ad_nil)) ad_nil))))))))))
theorem ok_bar_below {f : Addr} {fd : FuncData} (bt : Bt mg) (ct : Ct K mg) (hm : mg "bar_below" = some (.ref f)) (F : Fun K "bar_below" "bar_below" (top 62) f fd) (O_need_direction : OkD P w K mg base T "need_direction" (top 58) 3 ["direction"] sp_need_direction) (O_bar_below_by : OkD P w K mg base T "bar_below_by" (top 27) 5 ["floor", "j", "height"] sp_bar_below_by) (O_is_number : OkD P w K mg base T "is_number" (top 3) 2 ["thing"] sp_is_number) : OkD P w K mg base T "bar_below" (top 62) 6 ["floor", "direction", "height"] sp_bar_below := by
  obtain ⟨C_BadNumber, fI_BadNumber, T_BadNumber, N_BadNumber⟩ := ct.er_BadNumber
  refine ⟨f, fd, hm, F, okD (g := g_bar_below) F sc_bar_below len_bar_below (fun cdv A outer s H E W F R hr hE hp hx => ?_) law_bar_below⟩
  have nd := sc_bar_below.nd
  have hu65 := hu65_of hr
  exact (sds_cons (sd_drop (ed_o (B := ⟨⟨W, T⟩, F, H⟩) (k := 3) O_need_direction bp_need_direction (hr.mono (by decide)) hx hE (ad_cons (ed_var 1 (pv 1)) ad_nil)).toB)
      (sds_cons (sd_if (td_not (td_val (ed_o (B := ⟨⟨W, T⟩, F, H⟩) (k := 2) O_is_number bp_is_number (hr.mono (by decide)) hx hE (ad_cons (ed_var 2 (pv 2)) ad_nil)).toB)) (sds_one (sd_raise rfl T_BadNumber N_BadNumber hr (takes_of rfl rfl rfl rfl) hE (ed_var 2 (pv 2)))) sds_nil)
      (sds_one (sd_ret (ed_o (B := ⟨⟨W, T⟩, F, H⟩) (k := 5) O_bar_below_by bp_bar_below_by (hr.mono (by decide)) hx hE (ad_cons (ed_var 0 (pv 0)) (ad_cons (ed_var 1 (pv 1)) (ad_cons (ed_var 2 (pv 2)) ad_nil))))))))
theorem ok_bars_between {f : Addr} {fd : FuncData} (bt : Bt mg) (ct : Ct K mg) (hm : mg "bars_between" = some (.ref f)) (F : Fun K "bars_between" "bars_between" (top 63) f fd) (O_need_direction : OkD P w K mg base T "need_direction" (top 58) 3 ["direction"] sp_need_direction) (O_bar_below_by : OkD P w K mg base T "bar_below_by" (top 27) 5 ["floor", "j", "height"] sp_bar_below_by) (O_compared : OkD P w K mg base T "compared" (top 6) 2 ["one", "other"] sp_compared) (O_next_bar : OkD P w K mg base T "next_bar" (top 24) 4 ["floor", "bar"] sp_next_bar) (O_is_number : OkD P w K mg base T "is_number" (top 3) 2 ["thing"] sp_is_number) (O_height_by : OkD P w K mg base T "height_by" (top 26) 2 ["bar"] sp_height_by) : OkD P w K mg base T "bars_between" (top 63) 6 ["floor", "direction", "low", "high", "most"] sp_bars_between := by
  obtain ⟨C_BadNumber, fI_BadNumber, T_BadNumber, N_BadNumber⟩ := ct.er_BadNumber
  obtain ⟨C_TooMany, fI_TooMany, T_TooMany, N_TooMany⟩ := ct.er_TooMany
  refine ⟨f, fd, hm, F, okD (g := g_bars_between) F sc_bars_between len_bars_between (fun cdv A outer s H E W F R hr hE hp hx => ?_) law_bars_between⟩
  have nd := sc_bars_between.nd
  have hu65 := hu65_of hr
  exact (sds_cons (sd_drop (ed_o (B := ⟨⟨W, T⟩, F, H⟩) (k := 3) O_need_direction bp_need_direction (hr.mono (by decide)) hx hE (ad_cons (ed_var 1 (pv 1)) ad_nil)).toB)
      (sds_cons (sd_for hp rfl (pid_data (ed_tup (ad_cons (ed_var 2 (pv 2)) (ad_cons (ed_var 3 (pv 3)) ad_nil)))) (gd_name (pg_name (i := 5) nd rfl (Or.inl rfl))) (sds_one (sd_if (td_not (td_val (ed_o (B := ⟨⟨W, T⟩, F, H⟩) (k := 2) O_is_number bp_is_number (hr.mono (by decide)) hx hE (ad_cons (ed_var 5 (pv 5)) ad_nil)).toB)) (sds_one (sd_raise rfl T_BadNumber N_BadNumber hr (takes_of rfl rfl rfl rfl) hE (ed_var 5 (pv 5)))) sds_nil)))
      (sds_cons (sd_parR (i := 6) (j := 7) rfl nd rfl rfl (by decide) rfl rfl (ed_o (B := ⟨⟨W, T⟩, F, H⟩) (k := 5) O_bar_below_by bp_bar_below_by (hr.mono (by decide)) hx hE (ad_cons (ed_var 0 (pv 0)) (ad_cons (ed_var 1 (pv 1)) (ad_cons (ed_var 2 (pv 2)) ad_nil)))) (fd_lst ad_nil) (by rfl))
      (sds_cons (sd_if (td_cmp o_lt (ed_o (B := ⟨⟨W, T⟩, F, H⟩) (k := 2) O_compared bp_compared (hr.mono (by decide)) hx hE (ad_cons (ed_o (B := ⟨⟨W, T⟩, F, H⟩) (k := 2) O_height_by bp_height_by (hr.mono (by decide)) hx hE (ad_cons (ed_var 6 (pv 6)) ad_nil)) (ad_cons (ed_var 2 (pv 2)) ad_nil))).toB ed_int.toB (nomark _)) (sds_one (sd_set (i := 6) nd rfl (Or.inl rfl) (ed_o (B := ⟨⟨W, T⟩, F, H⟩) (k := 4) O_next_bar bp_next_bar (hr.mono (by decide)) hx hE (ad_cons (ed_var 0 (pv 0)) (ad_cons (ed_var 6 (pv 6)) ad_nil))))) sds_nil)
      (sds_cons (sd_while hp (td_cmp o_le (ed_o (B := ⟨⟨W, T⟩, F, H⟩) (k := 2) O_compared bp_compared (hr.mono (by decide)) hx hE (ad_cons (ed_o (B := ⟨⟨W, T⟩, F, H⟩) (k := 2) O_height_by bp_height_by (hr.mono (by decide)) hx hE (ad_cons (ed_var 6 (pv 6)) ad_nil)) (ad_cons (ed_var 3 (pv 3)) ad_nil))).toB ed_int.toB (nomark _)) (sds_cons (sd_if (td_cmp (o_eq hr.units) (ed_callB c_len (by rfl) bt.b_len nbLen (abd_cons (bd_var 7 (pv 7)) abd_nil)).toB (ed_var 4 (pv 4)).toB (nomark _)) (sds_one (sd_raise rfl T_TooMany N_TooMany hr (takes_of rfl rfl rfl rfl) hE (ed_var 4 (pv 4)))) sds_nil)
      (sds_cons (sd_appE (pv 7) (ed_var 6 (pv 6)))
      (sds_one (sd_set (i := 6) nd rfl (Or.inl rfl) (ed_o (B := ⟨⟨W, T⟩, F, H⟩) (k := 4) O_next_bar bp_next_bar (hr.mono (by decide)) hx hE (ad_cons (ed_var 0 (pv 0)) (ad_cons (ed_var 6 (pv 6)) ad_nil))))))))
      (sds_one (sd_ret (ed_callTy c_tuple (by rfl) bt.b_tuple nbTuple (abd_cons (bd_var 7 (pv 7)) abd_nil)))))))))
theorem ok__law_is_crossing_right {f : Addr} {fd : FuncData} (bt : Bt mg) (ct : Ct K mg) (hm : mg "_law_is_crossing_right" = some (.ref f)) (F : Fun K "_law_is_crossing_right" "_law_is_crossing_right" (top 92) f fd) (O_crossing_of : OkD P w K mg base T "crossing_of" (top 64) 5 ["one", "other"] sp_crossing_of) (O__law_same : OkG P w K mg base T "_law_same" (top 86) 1 ["_law_told_here", "_law_due"] sp__law_same) (O__law_draw : OkD P w K mg base T "_law_draw" (top 69) 1 ["_law_deck_here", "_law_many"] spDraw) (O__law_number : OkD P w K mg base T "_law_number" (top 71) 2 ["_law_deck_here"] sp__law_number) (O__law_bar_height : OkD P w K mg base T "_law_bar_height" (top 85) 1 ["_law_bar_here"] sp__law_bar_height) (O__law_golden : OkD P w K mg base T "_law_golden" (top 77) 2 ["_law_a", "_law_b", "_law_d"] sp__law_golden) (O_is_point : OkD P w K mg base T "is_point" (top 66) 3 ["thing"] sp_is_point) (O_height_of : OkD P w K mg base T "height_of" (top 61) 5 ["bar"] sp_height_of) : OkG P w K mg base T "_law_is_crossing_right" (top 92) 6 ["_law_deck_here"] sp__law_is_crossing_right := by
  refine ⟨f, fd, hm, F, okG (g := g__law_is_crossing_right) F sc__law_is_crossing_right len__law_is_crossing_right (fun cdv A outer s H E W F R hG hr hE hp hx => ?_) law__law_is_crossing_right⟩
  have nd := sc__law_is_crossing_right.nd
  have hu65 := hu65_of hr
  exact (sds_cons (sd_set (i := 1) nd rfl (Or.inl rfl) (ed_tup (ad_cons (ed_o (B := ⟨⟨W, T⟩, F, H⟩) (k := 1) O__law_draw bp__law_draw (hr.mono (by decide)) hx hE (ad_cons (ed_var 0 (pv 0)) (ad_cons ed_int ad_nil))) (ad_cons (ed_o (B := ⟨⟨W, T⟩, F, H⟩) (k := 2) O__law_number bp__law_number (hr.mono (by decide)) hx hE (ad_cons (ed_var 0 (pv 0)) ad_nil)) (ad_cons (ed_o (B := ⟨⟨W, T⟩, F, H⟩) (k := 2) O__law_number bp__law_number (hr.mono (by decide)) hx hE (ad_cons (ed_var 0 (pv 0)) ad_nil)) ad_nil)))))
      (sds_cons (sd_set (i := 2) nd rfl (Or.inl rfl) (ed_tup (ad_cons (ed_bin o_mod (ed_callTy (c_intB ct.dig) (by rfl) bt.b_int nbInt (abd_cons (ed_bin o_add (ed_bin o_add (ed_ix (ed_var 1 (pv 1)).toB ed_int.toB).toB ed_int.toB).toB (ed_o (B := ⟨⟨W, T⟩, F, H⟩) (k := 1) O__law_draw bp__law_draw (hr.mono (by decide)) hx hE (ad_cons (ed_var 0 (pv 0)) (ad_cons ed_int ad_nil))).toB).toB abd_nil)).toB ed_int.toB) (ad_cons (ed_o (B := ⟨⟨W, T⟩, F, H⟩) (k := 2) O__law_number bp__law_number (hr.mono (by decide)) hx hE (ad_cons (ed_var 0 (pv 0)) ad_nil)) (ad_cons (ed_o (B := ⟨⟨W, T⟩, F, H⟩) (k := 2) O__law_number bp__law_number (hr.mono (by decide)) hx hE (ad_cons (ed_var 0 (pv 0)) ad_nil)) ad_nil)))))
      (sds_cons (sd_for hp rfl (pid_data (ed_tup (ad_cons (ed_var 1 (pv 1)) (ad_cons (ed_var 2 (pv 2)) ad_nil)))) (gd_name (pg_name (i := 3) nd rfl (Or.inl rfl))) (sds_cons (sd_setT (is := [11, 12]) rfl (na_cons (pg_name (i := 11) nd rfl (Or.inl rfl)) (na_cons (pg_name (i := 12) nd rfl (Or.inl rfl)) na_nil)) (ed_o (B := ⟨⟨W, T⟩, F, H⟩) (k := 1) O__law_bar_height bp__law_bar_height (hr.mono (by decide)) hx hE (ad_cons (ed_var 3 (pv 3)) ad_nil)))
      (sds_one (sd_if (td_not (td_val (ed_g (B := ⟨⟨W, T⟩, F, H⟩) (k := 1) O__law_same bp__law_same hG (hr.mono (by decide)) hx hE (ad_cons (ed_tup (ad_cons (ed_o (B := ⟨⟨W, T⟩, F, H⟩) (k := 5) O_height_of bp_height_of (hr.mono (by decide)) hx hE (ad_cons (ed_var 3 (pv 3)) ad_nil)) (ad_cons (ed_ok0 (B := ⟨⟨W, T⟩, F, H⟩) (k := 5) O_height_of (by decide) kb_height_of_0 (hr.mono (by decide)) hx hE (kd_cons (ed_var 3 (pv 3)) kd_nil)) ad_nil))) (ad_cons (ed_tup (ad_cons (ed_o (B := ⟨⟨W, T⟩, F, H⟩) (k := 2) O__law_golden bp__law_golden (hr.mono (by decide)) hx hE (ad_cons (ed_var 11 (pv 11)) (ad_cons (ed_var 12 (pv 12)) (ad_cons ed_int ad_nil)))) (ad_cons (ed_o (B := ⟨⟨W, T⟩, F, H⟩) (k := 2) O__law_golden bp__law_golden (hr.mono (by decide)) hx hE (ad_cons (ed_var 11 (pv 11)) (ad_cons (ed_var 12 (pv 12)) (ad_cons ed_int ad_nil)))) ad_nil))) ad_nil))).toB)) (sds_one (sd_ret ed_bl)) sds_nil))))
      (sds_cons (sd_setT (is := [4, 5]) rfl (na_cons (pg_name (i := 4) nd rfl (Or.inl rfl)) (na_cons (pg_name (i := 5) nd rfl (Or.inl rfl)) na_nil)) (ed_if (td_cmp o_lt (ed_bin o_mod (ed_callTy (c_intB ct.dig) (by rfl) bt.b_int nbInt (abd_cons (ed_bin o_sub (ed_ix (ed_var 2 (pv 2)).toB ed_int.toB).toB (ed_ix (ed_var 1 (pv 1)).toB ed_int.toB).toB).toB abd_nil)).toB ed_int.toB).toB ed_int.toB (nomark _)) (ed_tup (ad_cons (ed_var 1 (pv 1)) (ad_cons (ed_var 2 (pv 2)) ad_nil))) (ed_tup (ad_cons (ed_var 2 (pv 2)) (ad_cons (ed_var 1 (pv 1)) ad_nil)))))
      (sds_cons (sd_par2 (i := 6) (j := 7) rfl nd rfl rfl (by decide) rfl rfl (ad_cons (ed_o (B := ⟨⟨W, T⟩, F, H⟩) (k := 1) O__law_bar_height bp__law_bar_height (hr.mono (by decide)) hx hE (ad_cons (ed_var 4 (pv 4)) ad_nil)) (ad_cons (ed_o (B := ⟨⟨W, T⟩, F, H⟩) (k := 1) O__law_bar_height bp__law_bar_height (hr.mono (by decide)) hx hE (ad_cons (ed_var 5 (pv 5)) ad_nil)) ad_nil)) (by rfl))
      (sds_cons (sd_if (td_cmp (o_eq hr.units) (ed_bin o_mod (ed_callTy (c_intB ct.dig) (by rfl) bt.b_int nbInt (abd_cons (ed_bin o_sub (ed_ix (ed_var 5 (pv 5)).toB ed_int.toB).toB (ed_ix (ed_var 4 (pv 4)).toB ed_int.toB).toB).toB abd_nil)).toB ed_int.toB).toB ed_int.toB (nomark _)) (sds_one (sd_set (i := 7) nd rfl (Or.inl rfl) (ed_tup (ad_cons (ed_bin o_add (ed_ix (ed_var 6 (pv 6)).toB ed_int.toB).toB (ed_ix (ed_var 7 (pv 7)).toB ed_int.toB).toB) (ad_cons (ed_bin o_add (ed_bin o_add (ed_bin o_add (ed_ix (ed_var 6 (pv 6)).toB ed_int.toB).toB (ed_ix (ed_var 6 (pv 6)).toB ed_int.toB).toB).toB (ed_ix (ed_var 7 (pv 7)).toB ed_int.toB).toB).toB (ed_ix (ed_var 7 (pv 7)).toB ed_int.toB).toB) ad_nil))))) sds_nil)
      (sds_cons (sd_setL (i := 8) nd rfl (Or.inl rfl) (fd_bin o_repF (fd_lst (ad_cons (ed_tup (ad_cons ed_int (ad_cons ed_int (ad_cons ed_int ad_nil)))) ad_nil)).toE.toB ed_int.toB))
      (sds_cons (sd_for hp rfl (pid_rng1 (by rfl) bt.b_range (ad_cons ed_int ad_nil)) (gd_name (pg_name (i := 9) nd rfl (Or.inl rfl))) (sds_cons (sd_setI (pv 8) (ed_o (B := ⟨⟨W, T⟩, F, H⟩) (k := 2) O__law_golden bp__law_golden (hr.mono (by decide)) hx hE (ad_cons (ed_ix (ed_var 6 (pv 6)).toB ed_int.toB) (ad_cons (ed_ix (ed_var 6 (pv 6)).toB ed_int.toB) (ad_cons ed_int ad_nil)))) (ed_bin o_mod (ed_callTy (c_intB ct.dig) (by rfl) bt.b_int nbInt (abd_cons (ed_bin o_add (ed_ix (ed_var 4 (pv 4)).toB ed_int.toB).toB (ed_var 9 (pv 9)).toB).toB abd_nil)).toB ed_int.toB).toB)
      (sds_one (sd_par2 (i := 6) (j := 7) rfl nd rfl rfl (by decide) rfl rfl (ad_cons (ed_var 7 (pv 7)) (ad_cons (ed_tup (ad_cons (ed_bin o_sub (ed_bin o_sub (ed_ix (ed_var 7 (pv 7)).toB ed_int.toB).toB (ed_ix (ed_var 7 (pv 7)).toB ed_int.toB).toB).toB (ed_ix (ed_var 6 (pv 6)).toB ed_int.toB).toB) (ad_cons (ed_bin o_sub (ed_ix (ed_var 7 (pv 7)).toB ed_int.toB).toB (ed_ix (ed_var 6 (pv 6)).toB ed_int.toB).toB) ad_nil))) ad_nil)) (by rfl)))))
      (sds_cons (sd_set (i := 10) nd rfl (Or.inl rfl) (ed_o (B := ⟨⟨W, T⟩, F, H⟩) (k := 5) O_crossing_of bp_crossing_of (hr.mono (by decide)) hx hE (ad_cons (ed_var 1 (pv 1)) (ad_cons (ed_var 2 (pv 2)) ad_nil))))
      (sds_cons (sd_if (wd_or (td_not (td_val (ed_g (B := ⟨⟨W, T⟩, F, H⟩) (k := 1) O__law_same bp__law_same hG (hr.mono (by decide)) hx hE (ad_cons (ed_var 10 (pv 10)) (ad_cons (ed_callTy c_tuple (by rfl) bt.b_tuple nbTuple (abd_cons (bd_var 8 (pv 8)) abd_nil)) ad_nil))).toB)) (wd_or1 (td_not (td_val (ed_g (B := ⟨⟨W, T⟩, F, H⟩) (k := 1) O__law_same bp__law_same hG (hr.mono (by decide)) hx hE (ad_cons (ed_ok0 (B := ⟨⟨W, T⟩, F, H⟩) (k := 5) O_crossing_of (by decide) kb_crossing_of_0 (hr.mono (by decide)) hx hE (kd_cons (ed_var 1 (pv 1)) (kd_cons (ed_var 2 (pv 2)) kd_nil))) (ad_cons (ed_var 10 (pv 10)) ad_nil))).toB)))).t (sds_one (sd_ret ed_bl)) sds_nil)
      (sds_one (sd_ret (ed_g (B := ⟨⟨W, T⟩, F, H⟩) (k := 1) O__law_same bp__law_same hG (hr.mono (by decide)) hx hE (ad_cons (ed_o (B := ⟨⟨W, T⟩, F, H⟩) (k := 3) O_is_point bp_is_point (hr.mono (by decide)) hx hE (ad_cons (ed_var 10 (pv 10)) ad_nil)) (ad_cons ed_bl ad_nil)))))))))))))))
theorem ok__law_floor {f : Addr} {fd : FuncData} (bt : Bt mg) (ct : Ct K mg) (hm : mg "_law_floor" = some (.ref f)) (F : Fun K "_law_floor" "_law_floor" (top 82) f fd) (O__law_pick : OkD P w K mg base T "_law_pick" (top 70) 2 ["_law_deck_here", "_law_some"] sp__law_pick) (O_Floor : OkM P w K mg base T "Floor" "Floor.__init__" (methS 52 0) 5 ["one", "other", "side"] [.tup [.int 0, .int 0, .int 0, .int 0, .int 0]] sp_Floor) : OkD P w K mg base T "_law_floor" (top 82) 7 ["_law_deck_here", "_law_world_here"] sp__law_floor := by
  refine ⟨f, fd, hm, F, okD (g := g__law_floor) F sc__law_floor len__law_floor (fun cdv A outer s H E W F R hr hE hp hx => ?_) law__law_floor⟩
  have nd := sc__law_floor.nd
  have hu65 := hu65_of hr
  exact (sds_cons (sd_setT (is := [2, 3, 4]) rfl (na_cons (pg_name (i := 2) nd rfl (Or.inl rfl)) (na_cons (pg_name (i := 3) nd rfl (Or.inl rfl)) (na_cons (pg_name (i := 4) nd rfl (Or.inl rfl)) na_nil))) (ed_var 1 (pv 1)))
      (sds_cons (sd_set (i := 5) nd rfl (Or.inl rfl) (ed_o (B := ⟨⟨W, T⟩, F, H⟩) (k := 2) O__law_pick bp__law_pick (hr.mono (by decide)) hx hE (ad_cons (ed_var 0 (pv 0)) (ad_cons (ed_tup (ad_cons ed_int (ad_cons ed_int (ad_cons ed_int (ad_cons ed_int ad_nil))))) ad_nil))))
      (sds_cons (sd_par2 (i := 6) (j := 7) rfl nd rfl rfl (by decide) rfl rfl (ad_cons (ed_tup (ad_cons (ed_bin o_mul (ed_ix (ed_ix (ed_var 3 (pv 3)).toB ed_int.toB).toB ed_int.toB).toB (ed_var 5 (pv 5)).toB) (ad_cons (ed_bin o_mul (ed_ix (ed_ix (ed_var 3 (pv 3)).toB ed_int.toB).toB ed_int.toB).toB (ed_var 5 (pv 5)).toB) (ad_cons (ed_bin o_mul (ed_var 2 (pv 2)).toB (ed_var 5 (pv 5)).toB) ad_nil)))) (ad_cons (ed_tup (ad_cons (ed_bin o_mul (ed_ix (ed_ix (ed_var 3 (pv 3)).toB ed_int.toB).toB ed_int.toB).toB (ed_var 5 (pv 5)).toB) (ad_cons (ed_bin o_mul (ed_ix (ed_ix (ed_var 3 (pv 3)).toB ed_int.toB).toB ed_int.toB).toB (ed_var 5 (pv 5)).toB) (ad_cons (ed_bin o_mul (ed_var 2 (pv 2)).toB (ed_var 5 (pv 5)).toB) ad_nil)))) ad_nil)) (by rfl))
      (sds_cons (sd_if (wd_and (td_cmp (o_eq hr.units) (ed_var 4 (pv 4)).toB (ed_tup (ad_cons ed_int (ad_cons ed_int (ad_cons ed_int (ad_cons ed_int (ad_cons ed_int ad_nil)))))).toB (nomark _)) (wd_and1 (td_cmp (o_eq hr.units) (ed_var 5 (pv 5)).toB ed_int.toB (nomark _)))).t (sds_one (sd_ret (ed_make (B := ⟨⟨W, T⟩, F, H⟩) (k := 5) O_Floor rfl bm_Floor_0 (hr.mono (by decide)) hx hE (ad_cons (ed_var 6 (pv 6)) (ad_cons (ed_var 7 (pv 7)) ad_nil)) kd_nil))) sds_nil)
      (sds_one (sd_ret (ed_make (B := ⟨⟨W, T⟩, F, H⟩) (k := 5) O_Floor rfl bm_Floor_1 (hr.mono (by decide)) hx hE (ad_cons (ed_var 6 (pv 6)) ad_nil) (kd_cons (ed_var 4 (pv 4)) (kd_cons (ed_var 7 (pv 7)) kd_nil)))))))))
theorem ok__law_told {f : Addr} {fd : FuncData} (bt : Bt mg) (ct : Ct K mg) (hm : mg "_law_told" = some (.ref f)) (F : Fun K "_law_told" "_law_told" (top 91) f fd) (O_bars_between : OkD P w K mg base T "bars_between" (top 63) 6 ["floor", "direction", "low", "high", "most"] sp_bars_between) (OW_bars_between : OkW P w K mg base T "bars_between" (top 63) 6 ["floor", "direction", "low", "high", "most"] "most" 400 sp_bars_between) : OkD P w K mg base T "_law_told" (top 91) 7 ["_law_floor_here", "_law_j", "_law_low", "_law_high", "_law_most"] sp__law_told := by
  obtain ⟨D_TooMany, g_TooMany⟩ := ct.g_TooMany
  refine ⟨f, fd, hm, F, okD (g := g__law_told) F sc__law_told len__law_told (fun cdv A outer s H E W F R hr hE hp hx => ?_) law__law_told⟩
  have nd := sc__law_told.nd
  have hu65 := hu65_of hr
  exact (sds_one (sd_try (M := clsM) rfl rfl nd (takes_of rfl rfl rfl rfl) hE ct.tab (fun pn xe E R hx hE hp => (sds_cons (sd_if (td_cmp (o_eq hr.units) (ed_var 4 (pv 4)).toB ed_int.toB (nomark _)) (sds_one (sd_ret (ed_ow (B := ⟨⟨W, T⟩, F, H⟩) (k := 6) OW_bars_between rfl bw_bars_between (hr.mono (by decide)) hx hE (ad_cons (ed_var 0 (pv 0)) (ad_cons (ed_var 1 (pv 1)) (ad_cons (ed_var 2 (pv 2)) (ad_cons (ed_var 3 (pv 3)) ad_nil))))))) sds_nil)
      (sds_one (sd_ret (ed_ok0 (B := ⟨⟨W, T⟩, F, H⟩) (k := 6) O_bars_between (by decide) kb_bars_between_0 (hr.mono (by decide)) hx hE (kd_cons (ed_var 2 (pv 2)) (kd_cons (ed_var 3 (pv 3)) (kd_cons (ed_var 1 (pv 1)) (kd_cons (ed_var 0 (pv 0)) (kd_cons (ed_var 4 (pv 4)) kd_nil))))))))))
      (.named rfl rfl g_TooMany (i := 5) rfl rfl (fun a oe cls d pn F0 H0 er zc fv at_ => (sds_one (sd_ret (ed_tup (ad_cons ed_str (ad_cons (ed_erF (fld := "most") at_ zc fv ct.get_most (pv 5)) ad_nil)))))) .nil)))
theorem ok_law {f fk : Addr} {fd fdk : FuncData} (bt : Bt mg) (hmk : mg "_law_deck" = some (.ref fk)) (Fk : Fun K "_law_deck" "_law_deck" (top 68) fk fdk) (F : Fun K "law" "law" (top 93) f fd) (O__law_world : OkD P w K mg base T "_law_world" (top 81) 3 ["_law_deck_here", "_law_edge"] sp__law_world) (O__law_place : OkD P w K mg base T "_law_place" (top 87) 3 ["_law_deck_here", "_law_world_here", "_law_j"] sp__law_place) (O__law_height : OkD P w K mg base T "_law_height" (top 90) 4 ["_law_deck_here", "_law_world_here", "_law_j", "_law_number_here"] sp__law_height) (O__law_pick : OkD P w K mg base T "_law_pick" (top 70) 2 ["_law_deck_here", "_law_some"] sp__law_pick) (O__law_floor : OkD P w K mg base T "_law_floor" (top 82) 7 ["_law_deck_here", "_law_world_here"] sp__law_floor) (O__law_draw : OkD P w K mg base T "_law_draw" (top 69) 1 ["_law_deck_here", "_law_many"] spDraw) (O__law_below : OkD P w K mg base T "_law_below" (top 89) 4 ["_law_world_here", "_law_j", "_law_height_here"] sp__law_below) (O__law_same : OkG P w K mg base T "_law_same" (top 86) 1 ["_law_told_here", "_law_due"] sp__law_same) (O__law_compared : OkD P w K mg base T "_law_compared" (top 88) 2 ["_law_bar_here", "_law_height_here"] sp__law_compared) (O__law_phase : OkD P w K mg base T "_law_phase" (top 83) 1 ["_law_world_here", "_law_j", "_law_number_here", "_law_x"] sp__law_phase) (O_bar_below : OkD P w K mg base T "bar_below" (top 62) 6 ["floor", "direction", "height"] sp_bar_below) (O__law_bar : OkD P w K mg base T "_law_bar" (top 84) 3 ["_law_world_here", "_law_j", "_law_number_here"] sp__law_bar) (O__law_told : OkD P w K mg base T "_law_told" (top 91) 7 ["_law_floor_here", "_law_j", "_law_low", "_law_high", "_law_most"] sp__law_told) (O__law_is_crossing_right : OkG P w K mg base T "_law_is_crossing_right" (top 92) 6 ["_law_deck_here"] sp__law_is_crossing_right) (O__law_number : OkD P w K mg base T "_law_number" (top 71) 2 ["_law_deck_here"] sp__law_number) (O_phase_of : OkD P w K mg base T "phase_of" (top 60) 5 ["floor", "bar"] sp_phase_of) (O__law_golden : OkD P w K mg base T "_law_golden" (top 77) 2 ["_law_a", "_law_b", "_law_d"] sp__law_golden) (O_has_bar : OkD P w K mg base T "has_bar" (top 59) 4 ["floor", "thing"] sp_has_bar) : FnG P w K mg base 8 f fd ["_law_script"] (spLaw K T) := by
  refine okLaw (g := fun W => g_law W fun _ => False) F sc_law (by decide) rfl (fun cdv A outer s H E hG hr hp hx => ⟨ps_set (i := 1) sc_law.nd rfl (Or.inl rfl) (pe_call (ok__law_deck bt Fk) (hr.mono (by decide)) rfl hmk Fk.kp (Fk.binds bp__law_deck) .nil hx (pa_cons (pv 0) pa_nil)), fun p H0 => ?_⟩) law_law
  have nd := sc_law.nd
  have W : WD := some p
  have hE : FinE ⟨some p, T⟩ ⟨K, mg⟩ hp0 H0 (fun _ => False) E := fun er z => z.elim
  have hu65 := hu65_of hr
  exact (sds_cons (sd_set (i := 2) nd rfl (Or.inr rfl) (ed_o (B := ⟨⟨some p, T⟩, hp0, H0⟩) (k := 3) O__law_world bp__law_world (hr.mono (by decide)) hx hE (ad_cons (ed_var 1 (pv 1)) (ad_cons (ed_cmp (o_eq hr.units) (ed_o (B := ⟨⟨some p, T⟩, hp0, H0⟩) (k := 1) O__law_draw bp__law_draw (hr.mono (by decide)) hx hE (ad_cons (ed_var 1 (pv 1)) (ad_cons ed_int ad_nil))).toB ed_int.toB (nomark _)) ad_nil))))
      (sds_cons (sd_setT (is := [3, 4]) rfl (na_cons (pg_name (i := 3) nd rfl (Or.inl rfl)) (na_cons (pg_name (i := 4) nd rfl (Or.inr rfl)) na_nil)) (ed_tup (ad_cons (ed_o (B := ⟨⟨some p, T⟩, hp0, H0⟩) (k := 7) O__law_floor bp__law_floor (hr.mono (by decide)) hx hE (ad_cons (ed_var 1 (pv 1)) (ad_cons (ed_var 2 (pv 2)) ad_nil))) (ad_cons (ed_o (B := ⟨⟨some p, T⟩, hp0, H0⟩) (k := 1) O__law_draw bp__law_draw (hr.mono (by decide)) hx hE (ad_cons (ed_var 1 (pv 1)) (ad_cons ed_int ad_nil))) ad_nil))))
      (sds_cons (sd_set (i := 5) nd rfl (Or.inl rfl) (ed_o (B := ⟨⟨some p, T⟩, hp0, H0⟩) (k := 3) O__law_place bp__law_place (hr.mono (by decide)) hx hE (ad_cons (ed_var 1 (pv 1)) (ad_cons (ed_var 2 (pv 2)) (ad_cons (ed_var 4 (pv 4)) ad_nil)))))
      (sds_cons (sd_set (i := 6) nd rfl (Or.inl rfl) (ed_o (B := ⟨⟨some p, T⟩, hp0, H0⟩) (k := 4) O__law_height bp__law_height (hr.mono (by decide)) hx hE (ad_cons (ed_var 1 (pv 1)) (ad_cons (ed_var 2 (pv 2)) (ad_cons (ed_var 4 (pv 4)) (ad_cons (ed_var 5 (pv 5)) ad_nil))))))
      (sds_cons (sd_set (i := 7) nd rfl (Or.inl rfl) (ed_o (B := ⟨⟨some p, T⟩, hp0, H0⟩) (k := 2) O__law_pick bp__law_pick (hr.mono (by decide)) hx hE (ad_cons (ed_var 1 (pv 1)) (ad_cons (ed_tup (ad_cons ed_int (ad_cons ed_int (ad_cons ed_int (ad_cons ed_int (ad_cons ed_int (ad_cons ed_int (ad_cons ed_int (ad_cons ed_int (ad_cons (ed_un o_neg ed_int.toB) (ad_cons ed_int (ad_cons ed_int (ad_cons ed_int ad_nil))))))))))))) ad_nil))))
      (sds_cons (sd_if (td_cmp (o_eq hr.units) (ed_var 7 (pv 7)).toB ed_int.toB (nomark _)) (sds_one (sd_set (i := 7) nd rfl (Or.inl rfl) (ed_o (B := ⟨⟨some p, T⟩, hp0, H0⟩) (k := 2) O__law_pick bp__law_pick (hr.mono (by decide)) hx hE (ad_cons (ed_var 1 (pv 1)) (ad_cons (ed_tup (ad_cons ed_int (ad_cons ed_int (ad_cons ed_int (ad_cons ed_int ad_nil))))) ad_nil))))) sds_nil)
      (sds_cons (sd_set (i := 8) nd rfl (Or.inl rfl) (ed_o (B := ⟨⟨some p, T⟩, hp0, H0⟩) (k := 4) O__law_height bp__law_height (hr.mono (by decide)) hx hE (ad_cons (ed_var 1 (pv 1)) (ad_cons (ed_var 2 (pv 2)) (ad_cons (ed_var 4 (pv 4)) (ad_cons (ed_bin o_add (ed_var 5 (pv 5)).toB (ed_var 7 (pv 7)).toB) ad_nil))))))
      (sds_cons (sd_par2 (i := 9) (j := 10) rfl nd rfl rfl (by decide) rfl rfl (ad_cons (ed_o (B := ⟨⟨some p, T⟩, hp0, H0⟩) (k := 4) O__law_below bp__law_below (hr.mono (by decide)) hx hE (ad_cons (ed_var 2 (pv 2)) (ad_cons (ed_var 4 (pv 4)) (ad_cons (ed_var 6 (pv 6)) ad_nil)))) (ad_cons (ed_o (B := ⟨⟨some p, T⟩, hp0, H0⟩) (k := 4) O__law_below bp__law_below (hr.mono (by decide)) hx hE (ad_cons (ed_var 2 (pv 2)) (ad_cons (ed_var 4 (pv 4)) (ad_cons (ed_var 8 (pv 8)) ad_nil)))) ad_nil)) (by rfl))
      (sds_cons (sd_if (td_not (td_val (ed_g (B := ⟨⟨some p, T⟩, hp0, H0⟩) (k := 1) O__law_same bp__law_same hG (hr.mono (by decide)) hx hE (ad_cons (ed_o (B := ⟨⟨some p, T⟩, hp0, H0⟩) (k := 6) O_bar_below bp_bar_below (hr.mono (by decide)) hx hE (ad_cons (ed_var 3 (pv 3)) (ad_cons (ed_var 4 (pv 4)) (ad_cons (ed_var 6 (pv 6)) ad_nil)))) (ad_cons (ed_o (B := ⟨⟨some p, T⟩, hp0, H0⟩) (k := 3) O__law_bar bp__law_bar (hr.mono (by decide)) hx hE (ad_cons (ed_var 2 (pv 2)) (ad_cons (ed_var 4 (pv 4)) (ad_cons (ed_var 9 (pv 9)) ad_nil)))) ad_nil))).toB)) (sds_one (sd_ret ed_bl)) sds_nil)
      (sds_cons (sd_if (td_not (td_val (ed_g (B := ⟨⟨some p, T⟩, hp0, H0⟩) (k := 1) O__law_same bp__law_same hG (hr.mono (by decide)) hx hE (ad_cons (ed_ok0 (B := ⟨⟨some p, T⟩, hp0, H0⟩) (k := 6) O_bar_below (by decide) kb_bar_below_0 (hr.mono (by decide)) hx hE (kd_cons (ed_var 8 (pv 8)) (kd_cons (ed_var 3 (pv 3)) (kd_cons (ed_var 4 (pv 4)) kd_nil)))) (ad_cons (ed_o (B := ⟨⟨some p, T⟩, hp0, H0⟩) (k := 3) O__law_bar bp__law_bar (hr.mono (by decide)) hx hE (ad_cons (ed_var 2 (pv 2)) (ad_cons (ed_var 4 (pv 4)) (ad_cons (ed_var 10 (pv 10)) ad_nil)))) ad_nil))).toB)) (sds_one (sd_ret ed_bl)) sds_nil)
      (sds_cons (sd_if (td_cmp o_lt (ed_o (B := ⟨⟨some p, T⟩, hp0, H0⟩) (k := 2) O__law_compared bp__law_compared (hr.mono (by decide)) hx hE (ad_cons (ed_o (B := ⟨⟨some p, T⟩, hp0, H0⟩) (k := 3) O__law_bar bp__law_bar (hr.mono (by decide)) hx hE (ad_cons (ed_var 2 (pv 2)) (ad_cons (ed_var 4 (pv 4)) (ad_cons (ed_var 9 (pv 9)) ad_nil)))) (ad_cons (ed_var 6 (pv 6)) ad_nil))).toB ed_int.toB (nomark _)) (sds_one (sd_set (i := 9) nd rfl (Or.inl rfl) (ed_bin o_add (ed_var 9 (pv 9)).toB ed_int.toB))) sds_nil)
      (sds_cons (sd_set (i := 11) nd rfl (Or.inl rfl) (ed_callTy c_tuple (by rfl) bt.b_tuple nbTuple (abd_cons (fd_lc (own := [("_law_it", 20)]) rfl nd (pid_rng2B (by rfl) bt.b_range (ad_cons (ed_var 9 (pv 9)) (ad_cons (ed_bin o_add (ed_var 10 (pv 10)).toB ed_int.toB) ad_nil))) (blkOk_by (own := [("_law_it", 20)]) (N := ["_law_script", "_law_deck_here", "_law_world_here", "_law_floor_here", "_law_j", "_law_number_here", "_law_low", "_law_long", "_law_high", "_law_start", "_law_end", "_law_due", "_law_most", "_law_turn", "_law_way", "_law_bar_here", "_law_a", "_law_b", "_law_is_bar_of", "_law_told_here", "_law_it"]) (sc := defScope (top 93)) (by decide +kernel)) (ct_name (by decide)) (fun _ _ _ _ _ => pg_name (i := 20) nd rfl (Or.inl rfl)) (fun _ _ _ _ _ => tds_nil) (fun _ _ _ _ _ => (ed_o (B := ⟨⟨some p, T⟩, hp0, H0⟩) (k := 3) O__law_bar bp__law_bar (hr.mono (by decide)) passL FinE.none (ad_cons (ed_var 2 (pv 2)) (ad_cons (ed_var 4 (pv 4)) (ad_cons (ed_var 20 (pv 20)) ad_nil)))))).toE.toB abd_nil)))
      (sds_cons (sd_for hp rfl (pid_data (ed_tup (ad_cons ed_int (ad_cons (ed_callB c_len (by rfl) bt.b_len nbLen (abd_cons (ed_var 11 (pv 11)).toB abd_nil)) (ad_cons (ed_bin o_sub (ed_callB c_len (by rfl) bt.b_len nbLen (abd_cons (ed_var 11 (pv 11)).toB abd_nil)).toB ed_int.toB) (ad_cons (ed_bin o_add (ed_callB c_len (by rfl) bt.b_len nbLen (abd_cons (ed_var 11 (pv 11)).toB abd_nil)).toB (ed_o (B := ⟨⟨some p, T⟩, hp0, H0⟩) (k := 1) O__law_draw bp__law_draw (hr.mono (by decide)) hx hE (ad_cons (ed_var 1 (pv 1)) (ad_cons ed_int ad_nil))).toB) ad_nil)))))) (gd_name (pg_name (i := 12) nd rfl (Or.inl rfl))) (sds_one (sd_if (td_cmp o_ge (ed_var 12 (pv 12)).toB ed_int.toB (nomark _)) (sds_cons (sd_set (i := 19) nd rfl (Or.inl rfl) (ed_o (B := ⟨⟨some p, T⟩, hp0, H0⟩) (k := 7) O__law_told bp__law_told (hr.mono (by decide)) hx hE (ad_cons (ed_var 3 (pv 3)) (ad_cons (ed_var 4 (pv 4)) (ad_cons (ed_var 6 (pv 6)) (ad_cons (ed_var 8 (pv 8)) (ad_cons (ed_var 12 (pv 12)) ad_nil)))))))
      (sds_one (sd_if (td_not (td_val (ed_g (B := ⟨⟨some p, T⟩, hp0, H0⟩) (k := 1) O__law_same bp__law_same hG (hr.mono (by decide)) hx hE (ad_cons (ed_var 19 (pv 19)) (ad_cons (ed_if (td_cmp o_le (ed_callB c_len (by rfl) bt.b_len nbLen (abd_cons (ed_var 11 (pv 11)).toB abd_nil)).toB (ed_var 12 (pv 12)).toB (nomark _)) (ed_var 11 (pv 11)) (ed_tup (ad_cons ed_str (ad_cons (ed_var 12 (pv 12)) ad_nil)))) ad_nil))).toB)) (sds_one (sd_ret ed_bl)) sds_nil))) sds_nil)))
      (sds_cons (sd_for hp rfl (pid_rng1 (by rfl) bt.b_range (ad_cons ed_int ad_nil)) (gd_name (pg_name (i := 13) nd rfl (Or.inl rfl))) (sds_cons (sd_if (td_not (td_val (ed_g (B := ⟨⟨some p, T⟩, hp0, H0⟩) (k := 6) O__law_is_crossing_right bp__law_is_crossing_right hG (hr.mono (by decide)) hx hE (ad_cons (ed_var 1 (pv 1)) ad_nil)).toB)) (sds_one (sd_ret ed_bl)) sds_nil)
      (sds_cons (sd_set (i := 14) nd rfl (Or.inl rfl) (ed_o (B := ⟨⟨some p, T⟩, hp0, H0⟩) (k := 1) O__law_draw bp__law_draw (hr.mono (by decide)) hx hE (ad_cons (ed_var 1 (pv 1)) (ad_cons ed_int ad_nil))))
      (sds_cons (sd_set (i := 15) nd rfl (Or.inl rfl) (ed_tup (ad_cons (ed_var 14 (pv 14)) (ad_cons (ed_o (B := ⟨⟨some p, T⟩, hp0, H0⟩) (k := 2) O__law_number bp__law_number (hr.mono (by decide)) hx hE (ad_cons (ed_var 1 (pv 1)) ad_nil)) (ad_cons (ed_o (B := ⟨⟨some p, T⟩, hp0, H0⟩) (k := 2) O__law_number bp__law_number (hr.mono (by decide)) hx hE (ad_cons (ed_var 1 (pv 1)) ad_nil)) ad_nil)))))
      (sds_cons (sd_if (td_cmp o_gt (ed_var 13 (pv 13)).toB ed_int.toB (nomark _)) (sds_one (sd_set (i := 15) nd rfl (Or.inl rfl) (ed_o (B := ⟨⟨some p, T⟩, hp0, H0⟩) (k := 3) O__law_bar bp__law_bar (hr.mono (by decide)) hx hE (ad_cons (ed_var 2 (pv 2)) (ad_cons (ed_var 14 (pv 14)) (ad_cons (ed_o (B := ⟨⟨some p, T⟩, hp0, H0⟩) (k := 3) O__law_place bp__law_place (hr.mono (by decide)) hx hE (ad_cons (ed_var 1 (pv 1)) (ad_cons (ed_var 2 (pv 2)) (ad_cons (ed_var 14 (pv 14)) ad_nil)))) ad_nil)))))) sds_nil)
      (sds_cons (sd_if (td_cmp (o_eq hr.units) (ed_var 13 (pv 13)).toB ed_int.toB (nomark _)) (sds_one (sd_set (i := 15) nd rfl (Or.inl rfl) (ed_tup (ad_cons (ed_var 14 (pv 14)) (ad_cons (ed_bin o_add (ed_ix (ed_var 15 (pv 15)).toB ed_int.toB).toB ed_int.toB) (ad_cons (ed_bin o_sub (ed_ix (ed_var 15 (pv 15)).toB ed_int.toB).toB ed_int.toB) ad_nil)))))) sds_nil)
      (sds_cons (sd_setT (is := [16, 17]) rfl (na_cons (pg_name (i := 16) nd rfl (Or.inl rfl)) (na_cons (pg_name (i := 17) nd rfl (Or.inl rfl)) na_nil)) (ed_o (B := ⟨⟨some p, T⟩, hp0, H0⟩) (k := 1) O__law_phase bp__law_phase (hr.mono (by decide)) hx hE (ad_cons (ed_var 2 (pv 2)) (ad_cons (ed_var 14 (pv 14)) (ad_cons (ed_bin o_add (ed_ix (ed_var 15 (pv 15)).toB ed_int.toB).toB (ed_ix (ed_var 15 (pv 15)).toB ed_int.toB).toB) (ad_cons (ed_ix (ed_var 15 (pv 15)).toB ed_int.toB) ad_nil))))))
      (sds_cons (sd_if (td_not (td_val (ed_g (B := ⟨⟨some p, T⟩, hp0, H0⟩) (k := 1) O__law_same bp__law_same hG (hr.mono (by decide)) hx hE (ad_cons (ed_o (B := ⟨⟨some p, T⟩, hp0, H0⟩) (k := 5) O_phase_of bp_phase_of (hr.mono (by decide)) hx hE (ad_cons (ed_var 3 (pv 3)) (ad_cons (ed_var 15 (pv 15)) ad_nil))) (ad_cons (ed_o (B := ⟨⟨some p, T⟩, hp0, H0⟩) (k := 2) O__law_golden bp__law_golden (hr.mono (by decide)) hx hE (ad_cons (ed_var 16 (pv 16)) (ad_cons (ed_var 17 (pv 17)) (ad_cons (ed_ix (ed_var 2 (pv 2)).toB ed_int.toB) ad_nil)))) ad_nil))).toB)) (sds_one (sd_ret ed_bl)) sds_nil)
      (sds_cons (sd_set (i := 18) nd rfl (Or.inl rfl) (ed_cmp (o_eq hr.units) (ed_var 15 (pv 15)).toB (ed_o (B := ⟨⟨some p, T⟩, hp0, H0⟩) (k := 3) O__law_bar bp__law_bar (hr.mono (by decide)) hx hE (ad_cons (ed_var 2 (pv 2)) (ad_cons (ed_var 14 (pv 14)) (ad_cons (ed_bin o_add (ed_ix (ed_var 15 (pv 15)).toB ed_int.toB).toB (ed_ix (ed_var 15 (pv 15)).toB ed_int.toB).toB) ad_nil)))).toB (nomark _)))
      (sds_one (sd_if (td_not (td_val (ed_g (B := ⟨⟨some p, T⟩, hp0, H0⟩) (k := 1) O__law_same bp__law_same hG (hr.mono (by decide)) hx hE (ad_cons (ed_tup (ad_cons (ed_o (B := ⟨⟨some p, T⟩, hp0, H0⟩) (k := 4) O_has_bar bp_has_bar (hr.mono (by decide)) hx hE (ad_cons (ed_var 3 (pv 3)) (ad_cons (ed_var 15 (pv 15)) ad_nil))) (ad_cons (ed_ok0 (B := ⟨⟨some p, T⟩, hp0, H0⟩) (k := 4) O_has_bar (by decide) kb_has_bar_0 (hr.mono (by decide)) hx hE (kd_cons (ed_var 15 (pv 15)) (kd_cons (ed_var 3 (pv 3)) kd_nil))) ad_nil))) (ad_cons (ed_tup (ad_cons (ed_var 18 (pv 18)) (ad_cons (ed_var 18 (pv 18)) ad_nil))) ad_nil))).toB)) (sds_one (sd_ret ed_bl)) sds_nil)))))))))))
      (sds_one (sd_ret ed_bl))))))))))))))))
end
theorem all_ok {l : PySem.W.OpenLaw} {w : World} {K : PySem.W.Frag} {h : Heap} {mg : Str → Option Value} {fa : Addr} (X : K.In h) (G : h.Ns mainGlobals mg) (hfa : mg "law" = some (.ref fa))
    {f2 f3 f4 f5 f6 f7 f8 f9 f10 f11 f12 f13 f14 f15 f17 f18 f20 f21 f22 f23 f24 f25 f26 f27 f28 f48 f49 f50 f51 f56 f57 f58 f59 f60 f61 f62 f63 f64 f66 f68 f69 f70 f71 f72 f73 f74 f75 f76 f77 f78 f79 f80 f81 f82 f83 f84 f85 f86 f87 f88 f89 f90 f91 f92 f93 C_BadBar C_BadDirection C_BadNumber C_BadSide C_TooMany fI_BadBar fI_BadDirection fI_BadNumber fI_BadSide fI_TooMany KW63 : Addr} {kt63 : Tok} {od2 an2 od3 an3 od4 an4 od5 an5 od6 an6 od7 an7 od8 an8 od9 an9 od10 an10 od11 an11 od12 an12 od13 an13 od14 an14 od15 an15 od17 an17 od18 an18 od20 an20 od21 an21 od22 an22 od23 an23 od24 an24 od25 an25 od26 an26 od27 an27 od28 an28 od48 an48 od49 an49 od50 an50 od51 an51 od56 an56 od57 an57 od58 an58 od59 an59 od60 an60 od61 an61 od62 an62 od63 an63 od64 an64 od66 an66 od68 an68 od69 an69 od70 an70 od71 an71 od72 an72 od73 an73 od74 an74 od75 an75 od76 an76 od77 an77 od78 an78 od79 an79 od80 an80 od81 an81 od82 an82 od83 an83 od84 an84 od85 an85 od86 an86 od87 an87 od88 an88 od89 an89 od90 an90 od91 an91 od92 an92 od93 an93 od_BadBar an_BadBar od_BadDirection an_BadDirection od_BadNumber an_BadNumber od_BadSide an_BadSide od_TooMany an_TooMany : Option Addr} {sl2 sl3 sl4 sl5 sl6 sl7 sl8 sl9 sl10 sl11 sl12 sl13 sl14 sl15 sl17 sl18 sl20 sl21 sl22 sl23 sl24 sl25 sl26 sl27 sl28 sl48 sl49 sl50 sl51 sl56 sl57 sl58 sl59 sl60 sl61 sl62 sl63 sl64 sl66 sl68 sl69 sl70 sl71 sl72 sl73 sl74 sl75 sl76 sl77 sl78 sl79 sl80 sl81 sl82 sl83 sl84 sl85 sl86 sl87 sl88 sl89 sl90 sl91 sl92 sl93 sl_BadBar sl_BadDirection sl_BadNumber sl_BadSide sl_TooMany : Array (Option Value)} {oc2 kV2 dc2 pm2 cd2 ct2 oc3 kV3 dc3 pm3 cd3 ct3 oc4 kV4 dc4 pm4 cd4 ct4 oc5 kV5 dc5 pm5 cd5 ct5 oc6 kV6 dc6 pm6 cd6 ct6 oc7 kV7 dc7 pm7 cd7 ct7 oc8 kV8 dc8 pm8 cd8 ct8 oc9 kV9 dc9 pm9 cd9 ct9 oc10 kV10 dc10 pm10 cd10 ct10 oc11 kV11 dc11 pm11 cd11 ct11 oc12 kV12 dc12 pm12 cd12 ct12 oc13 kV13 dc13 pm13 cd13 ct13 oc14 kV14 dc14 pm14 cd14 ct14 oc15 kV15 dc15 pm15 cd15 ct15 oc17 kV17 dc17 pm17 cd17 ct17 oc18 kV18 dc18 pm18 cd18 ct18 oc20 kV20 dc20 pm20 cd20 ct20 oc21 kV21 dc21 pm21 cd21 ct21 oc22 kV22 dc22 pm22 cd22 ct22 oc23 kV23 dc23 pm23 cd23 ct23 oc24 kV24 dc24 pm24 cd24 ct24 oc25 kV25 dc25 pm25 cd25 ct25 oc26 kV26 dc26 pm26 cd26 ct26 oc27 kV27 dc27 pm27 cd27 ct27 oc28 kV28 dc28 pm28 cd28 ct28 oc48 kV48 dc48 pm48 cd48 ct48 oc49 kV49 dc49 pm49 cd49 ct49 oc50 kV50 dc50 pm50 cd50 ct50 oc51 kV51 dc51 pm51 cd51 ct51 oc56 kV56 dc56 pm56 cd56 ct56 oc57 kV57 dc57 pm57 cd57 ct57 oc58 kV58 dc58 pm58 cd58 ct58 oc59 kV59 dc59 pm59 cd59 ct59 oc60 kV60 dc60 pm60 cd60 ct60 oc61 kV61 dc61 pm61 cd61 ct61 oc62 kV62 dc62 pm62 cd62 ct62 oc63  dc63 pm63 cd63 ct63 oc64 kV64 dc64 pm64 cd64 ct64 oc66 kV66 dc66 pm66 cd66 ct66 oc68 kV68 dc68 pm68 cd68 ct68 oc69 kV69 dc69 pm69 cd69 ct69 oc70 kV70 dc70 pm70 cd70 ct70 oc71 kV71 dc71 pm71 cd71 ct71 oc72 kV72 dc72 pm72 cd72 ct72 oc73 kV73 dc73 pm73 cd73 ct73 oc74 kV74 dc74 pm74 cd74 ct74 oc75 kV75 dc75 pm75 cd75 ct75 oc76 kV76 dc76 pm76 cd76 ct76 oc77 kV77 dc77 pm77 cd77 ct77 oc78 kV78 dc78 pm78 cd78 ct78 oc79 kV79 dc79 pm79 cd79 ct79 oc80 kV80 dc80 pm80 cd80 ct80 oc81 kV81 dc81 pm81 cd81 ct81 oc82 kV82 dc82 pm82 cd82 ct82 oc83 kV83 dc83 pm83 cd83 ct83 oc84 kV84 dc84 pm84 cd84 ct84 oc85 kV85 dc85 pm85 cd85 ct85 oc86 kV86 dc86 pm86 cd86 ct86 oc87 kV87 dc87 pm87 cd87 ct87 oc88 kV88 dc88 pm88 cd88 ct88 oc89 kV89 dc89 pm89 cd89 ct89 oc90 kV90 dc90 pm90 cd90 ct90 oc91 kV91 dc91 pm91 cd91 ct91 oc92 kV92 dc92 pm92 cd92 ct92 oc93 kV93 dc93 pm93 cd93 ct93 oc_BadBar kV_BadBar dc_BadBar pm_BadBar cd_BadBar ct_BadBar oc_BadDirection kV_BadDirection dc_BadDirection pm_BadDirection cd_BadDirection ct_BadDirection oc_BadNumber kV_BadNumber dc_BadNumber pm_BadNumber cd_BadNumber ct_BadNumber oc_BadSide kV_BadSide dc_BadSide pm_BadSide cd_BadSide ct_BadSide oc_TooMany kV_TooMany dc_TooMany pm_TooMany cd_TooMany ct_TooMany : Value}
    {Ty1 Ty7 C_Floor fI_Floor DI_Floor Ty13 : Addr} {Dy1 Dy7 DDI_Floor odI_Floor anI_Floor Dy13 : Option Addr} {Sy1 Sy7 DSI_Floor slI_Floor Sy13 : Array (Option Value)} {DCI_Floor ocI_Floor kVI_Floor dcI_Floor pmI_Floor cdI_Floor ctI_Floor : Value} {y2 y3 y4 y5 y6 y8 y9 y10 y11 y12 y14 y15 y16 y17 y18 : Tok} {Ny1 Ny7 DNI_Floor Ny13 : Nat}
    (a2 : PySem.W.nsIn K mainGlobals "is_integer" = some (some (.ref f2))) (l2 : K.lookup f2 = some ⟨oc2, od2, .func (PySem.W.fnOf "is_integer" "is_integer" (defArgs (top 2)) (defBody (top 2)) (defScope (top 2)) .none kV2 dc2 pm2 an2 cd2 ct2), sl2⟩) (c2 : PySem.W.codeIn K cd2 "is_integer" = true) (k2 : PySem.W.keepIn K (.ref f2) = true) (a3 : PySem.W.nsIn K mainGlobals "is_number" = some (some (.ref f3))) (l3 : K.lookup f3 = some ⟨oc3, od3, .func (PySem.W.fnOf "is_number" "is_number" (defArgs (top 3)) (defBody (top 3)) (defScope (top 3)) .none kV3 dc3 pm3 an3 cd3 ct3), sl3⟩) (c3 : PySem.W.codeIn K cd3 "is_number" = true) (k3 : PySem.W.keepIn K (.ref f3) = true) (a4 : PySem.W.nsIn K mainGlobals "normal" = some (some (.ref f4))) (l4 : K.lookup f4 = some ⟨oc4, od4, .func (PySem.W.fnOf "normal" "normal" (defArgs (top 4)) (defBody (top 4)) (defScope (top 4)) .none kV4 dc4 pm4 an4 cd4 ct4), sl4⟩) (c4 : PySem.W.codeIn K cd4 "normal" = true) (k4 : PySem.W.keepIn K (.ref f4) = true) (a5 : PySem.W.nsIn K mainGlobals "pair_sign" = some (some (.ref f5))) (l5 : K.lookup f5 = some ⟨oc5, od5, .func (PySem.W.fnOf "pair_sign" "pair_sign" (defArgs (top 5)) (defBody (top 5)) (defScope (top 5)) .none kV5 dc5 pm5 an5 cd5 ct5), sl5⟩) (c5 : PySem.W.codeIn K cd5 "pair_sign" = true) (k5 : PySem.W.keepIn K (.ref f5) = true) (a6 : PySem.W.nsIn K mainGlobals "compared" = some (some (.ref f6))) (l6 : K.lookup f6 = some ⟨oc6, od6, .func (PySem.W.fnOf "compared" "compared" (defArgs (top 6)) (defBody (top 6)) (defScope (top 6)) .none kV6 dc6 pm6 an6 cd6 ct6), sl6⟩) (c6 : PySem.W.codeIn K cd6 "compared" = true) (k6 : PySem.W.keepIn K (.ref f6) = true) (a7 : PySem.W.nsIn K mainGlobals "negative" = some (some (.ref f7))) (l7 : K.lookup f7 = some ⟨oc7, od7, .func (PySem.W.fnOf "negative" "negative" (defArgs (top 7)) (defBody (top 7)) (defScope (top 7)) .none kV7 dc7 pm7 an7 cd7 ct7), sl7⟩) (c7 : PySem.W.codeIn K cd7 "negative" = true) (k7 : PySem.W.keepIn K (.ref f7) = true) (a8 : PySem.W.nsIn K mainGlobals "added" = some (some (.ref f8))) (l8 : K.lookup f8 = some ⟨oc8, od8, .func (PySem.W.fnOf "added" "added" (defArgs (top 8)) (defBody (top 8)) (defScope (top 8)) .none kV8 dc8 pm8 an8 cd8 ct8), sl8⟩) (c8 : PySem.W.codeIn K cd8 "added" = true) (k8 : PySem.W.keepIn K (.ref f8) = true) (a9 : PySem.W.nsIn K mainGlobals "taken" = some (some (.ref f9))) (l9 : K.lookup f9 = some ⟨oc9, od9, .func (PySem.W.fnOf "taken" "taken" (defArgs (top 9)) (defBody (top 9)) (defScope (top 9)) .none kV9 dc9 pm9 an9 cd9 ct9), sl9⟩) (c9 : PySem.W.codeIn K cd9 "taken" = true) (k9 : PySem.W.keepIn K (.ref f9) = true) (a10 : PySem.W.nsIn K mainGlobals "multiplied" = some (some (.ref f10))) (l10 : K.lookup f10 = some ⟨oc10, od10, .func (PySem.W.fnOf "multiplied" "multiplied" (defArgs (top 10)) (defBody (top 10)) (defScope (top 10)) .none kV10 dc10 pm10 an10 cd10 ct10), sl10⟩) (c10 : PySem.W.codeIn K cd10 "multiplied" = true) (k10 : PySem.W.keepIn K (.ref f10) = true) (a11 : PySem.W.nsIn K mainGlobals "times_g" = some (some (.ref f11))) (l11 : K.lookup f11 = some ⟨oc11, od11, .func (PySem.W.fnOf "times_g" "times_g" (defArgs (top 11)) (defBody (top 11)) (defScope (top 11)) .none kV11 dc11 pm11 an11 cd11 ct11), sl11⟩) (c11 : PySem.W.codeIn K cd11 "times_g" = true) (k11 : PySem.W.keepIn K (.ref f11) = true) (a12 : PySem.W.nsIn K mainGlobals "times_less" = some (some (.ref f12))) (l12 : K.lookup f12 = some ⟨oc12, od12, .func (PySem.W.fnOf "times_less" "times_less" (defArgs (top 12)) (defBody (top 12)) (defScope (top 12)) .none kV12 dc12 pm12 an12 cd12 ct12), sl12⟩) (c12 : PySem.W.codeIn K cd12 "times_less" = true) (k12 : PySem.W.keepIn K (.ref f12) = true) (a13 : PySem.W.nsIn K mainGlobals "divided" = some (some (.ref f13))) (l13 : K.lookup f13 = some ⟨oc13, od13, .func (PySem.W.fnOf "divided" "divided" (defArgs (top 13)) (defBody (top 13)) (defScope (top 13)) .none kV13 dc13 pm13 an13 cd13 ct13), sl13⟩) (c13 : PySem.W.codeIn K cd13 "divided" = true) (k13 : PySem.W.keepIn K (.ref f13) = true) (a14 : PySem.W.nsIn K mainGlobals "is_whole_number" = some (some (.ref f14))) (l14 : K.lookup f14 = some ⟨oc14, od14, .func (PySem.W.fnOf "is_whole_number" "is_whole_number" (defArgs (top 14)) (defBody (top 14)) (defScope (top 14)) .none kV14 dc14 pm14 an14 cd14 ct14), sl14⟩) (c14 : PySem.W.codeIn K cd14 "is_whole_number" = true) (k14 : PySem.W.keepIn K (.ref f14) = true) (a15 : PySem.W.nsIn K mainGlobals "floor_integer" = some (some (.ref f15))) (l15 : K.lookup f15 = some ⟨oc15, od15, .func (PySem.W.fnOf "floor_integer" "floor_integer" (defArgs (top 15)) (defBody (top 15)) (defScope (top 15)) .none kV15 dc15 pm15 an15 cd15 ct15), sl15⟩) (c15 : PySem.W.codeIn K cd15 "floor_integer" = true) (k15 : PySem.W.keepIn K (.ref f15) = true) (a17 : PySem.W.nsIn K mainGlobals "is_direction" = some (some (.ref f17))) (l17 : K.lookup f17 = some ⟨oc17, od17, .func (PySem.W.fnOf "is_direction" "is_direction" (defArgs (top 17)) (defBody (top 17)) (defScope (top 17)) .none kV17 dc17 pm17 an17 cd17 ct17), sl17⟩) (c17 : PySem.W.codeIn K cd17 "is_direction" = true) (k17 : PySem.W.keepIn K (.ref f17) = true) (a18 : PySem.W.nsIn K mainGlobals "in_order" = some (some (.ref f18))) (l18 : K.lookup f18 = some ⟨oc18, od18, .func (PySem.W.fnOf "in_order" "in_order" (defArgs (top 18)) (defBody (top 18)) (defScope (top 18)) .none kV18 dc18 pm18 an18 cd18 ct18), sl18⟩) (c18 : PySem.W.codeIn K cd18 "in_order" = true) (k18 : PySem.W.keepIn K (.ref f18) = true) (a20 : PySem.W.nsIn K mainGlobals "raw_phase" = some (some (.ref f20))) (l20 : K.lookup f20 = some ⟨oc20, od20, .func (PySem.W.fnOf "raw_phase" "raw_phase" (defArgs (top 20)) (defBody (top 20)) (defScope (top 20)) .none kV20 dc20 pm20 an20 cd20 ct20), sl20⟩) (c20 : PySem.W.codeIn K cd20 "raw_phase" = true) (k20 : PySem.W.keepIn K (.ref f20) = true) (a21 : PySem.W.nsIn K mainGlobals "phase_sign" = some (some (.ref f21))) (l21 : K.lookup f21 = some ⟨oc21, od21, .func (PySem.W.fnOf "phase_sign" "phase_sign" (defArgs (top 21)) (defBody (top 21)) (defScope (top 21)) .none kV21 dc21 pm21 an21 cd21 ct21), sl21⟩) (c21 : PySem.W.codeIn K cd21 "phase_sign" = true) (k21 : PySem.W.keepIn K (.ref f21) = true) (a22 : PySem.W.nsIn K mainGlobals "floor_has_bar" = some (some (.ref f22))) (l22 : K.lookup f22 = some ⟨oc22, od22, .func (PySem.W.fnOf "floor_has_bar" "floor_has_bar" (defArgs (top 22)) (defBody (top 22)) (defScope (top 22)) .none kV22 dc22 pm22 an22 cd22 ct22), sl22⟩) (c22 : PySem.W.codeIn K cd22 "floor_has_bar" = true) (k22 : PySem.W.keepIn K (.ref f22) = true) (a23 : PySem.W.nsIn K mainGlobals "is_long" = some (some (.ref f23))) (l23 : K.lookup f23 = some ⟨oc23, od23, .func (PySem.W.fnOf "is_long" "is_long" (defArgs (top 23)) (defBody (top 23)) (defScope (top 23)) .none kV23 dc23 pm23 an23 cd23 ct23), sl23⟩) (c23 : PySem.W.codeIn K cd23 "is_long" = true) (k23 : PySem.W.keepIn K (.ref f23) = true) (a24 : PySem.W.nsIn K mainGlobals "next_bar" = some (some (.ref f24))) (l24 : K.lookup f24 = some ⟨oc24, od24, .func (PySem.W.fnOf "next_bar" "next_bar" (defArgs (top 24)) (defBody (top 24)) (defScope (top 24)) .none kV24 dc24 pm24 an24 cd24 ct24), sl24⟩) (c24 : PySem.W.codeIn K cd24 "next_bar" = true) (k24 : PySem.W.keepIn K (.ref f24) = true) (a25 : PySem.W.nsIn K mainGlobals "bar_by" = some (some (.ref f25))) (l25 : K.lookup f25 = some ⟨oc25, od25, .func (PySem.W.fnOf "bar_by" "bar_by" (defArgs (top 25)) (defBody (top 25)) (defScope (top 25)) .none kV25 dc25 pm25 an25 cd25 ct25), sl25⟩) (c25 : PySem.W.codeIn K cd25 "bar_by" = true) (k25 : PySem.W.keepIn K (.ref f25) = true) (a26 : PySem.W.nsIn K mainGlobals "height_by" = some (some (.ref f26))) (l26 : K.lookup f26 = some ⟨oc26, od26, .func (PySem.W.fnOf "height_by" "height_by" (defArgs (top 26)) (defBody (top 26)) (defScope (top 26)) .none kV26 dc26 pm26 an26 cd26 ct26), sl26⟩) (c26 : PySem.W.codeIn K cd26 "height_by" = true) (k26 : PySem.W.keepIn K (.ref f26) = true) (a27 : PySem.W.nsIn K mainGlobals "bar_below_by" = some (some (.ref f27))) (l27 : K.lookup f27 = some ⟨oc27, od27, .func (PySem.W.fnOf "bar_below_by" "bar_below_by" (defArgs (top 27)) (defBody (top 27)) (defScope (top 27)) .none kV27 dc27 pm27 an27 cd27 ct27), sl27⟩) (c27 : PySem.W.codeIn K cd27 "bar_below_by" = true) (k27 : PySem.W.keepIn K (.ref f27) = true) (a28 : PySem.W.nsIn K mainGlobals "point_with" = some (some (.ref f28))) (l28 : K.lookup f28 = some ⟨oc28, od28, .func (PySem.W.fnOf "point_with" "point_with" (defArgs (top 28)) (defBody (top 28)) (defScope (top 28)) .none kV28 dc28 pm28 an28 cd28 ct28), sl28⟩) (c28 : PySem.W.codeIn K cd28 "point_with" = true) (k28 : PySem.W.keepIn K (.ref f28) = true) (a48 : PySem.W.nsIn K mainGlobals "keys_from" = some (some (.ref f48))) (l48 : K.lookup f48 = some ⟨oc48, od48, .func (PySem.W.fnOf "keys_from" "keys_from" (defArgs (top 48)) (defBody (top 48)) (defScope (top 48)) .none kV48 dc48 pm48 an48 cd48 ct48), sl48⟩) (c48 : PySem.W.codeIn K cd48 "keys_from" = true) (k48 : PySem.W.keepIn K (.ref f48) = true) (a49 : PySem.W.nsIn K mainGlobals "whole_directions" = some (some (.ref f49))) (l49 : K.lookup f49 = some ⟨oc49, od49, .func (PySem.W.fnOf "whole_directions" "whole_directions" (defArgs (top 49)) (defBody (top 49)) (defScope (top 49)) .none kV49 dc49 pm49 an49 cd49 ct49), sl49⟩) (c49 : PySem.W.codeIn K cd49 "whole_directions" = true) (k49 : PySem.W.keepIn K (.ref f49) = true) (a50 : PySem.W.nsIn K mainGlobals "sides_of" = some (some (.ref f50))) (l50 : K.lookup f50 = some ⟨oc50, od50, .func (PySem.W.fnOf "sides_of" "sides_of" (defArgs (top 50)) (defBody (top 50)) (defScope (top 50)) .none kV50 dc50 pm50 an50 cd50 ct50), sl50⟩) (c50 : PySem.W.codeIn K cd50 "sides_of" = true) (k50 : PySem.W.keepIn K (.ref f50) = true) (a51 : PySem.W.nsIn K mainGlobals "is_side" = some (some (.ref f51))) (l51 : K.lookup f51 = some ⟨oc51, od51, .func (PySem.W.fnOf "is_side" "is_side" (defArgs (top 51)) (defBody (top 51)) (defScope (top 51)) .none kV51 dc51 pm51 an51 cd51 ct51), sl51⟩) (c51 : PySem.W.codeIn K cd51 "is_side" = true) (k51 : PySem.W.keepIn K (.ref f51) = true) (a56 : PySem.W.nsIn K mainGlobals "is_bar" = some (some (.ref f56))) (l56 : K.lookup f56 = some ⟨oc56, od56, .func (PySem.W.fnOf "is_bar" "is_bar" (defArgs (top 56)) (defBody (top 56)) (defScope (top 56)) .none kV56 dc56 pm56 an56 cd56 ct56), sl56⟩) (c56 : PySem.W.codeIn K cd56 "is_bar" = true) (k56 : PySem.W.keepIn K (.ref f56) = true) (a57 : PySem.W.nsIn K mainGlobals "need_bar" = some (some (.ref f57))) (l57 : K.lookup f57 = some ⟨oc57, od57, .func (PySem.W.fnOf "need_bar" "need_bar" (defArgs (top 57)) (defBody (top 57)) (defScope (top 57)) .none kV57 dc57 pm57 an57 cd57 ct57), sl57⟩) (c57 : PySem.W.codeIn K cd57 "need_bar" = true) (k57 : PySem.W.keepIn K (.ref f57) = true) (a58 : PySem.W.nsIn K mainGlobals "need_direction" = some (some (.ref f58))) (l58 : K.lookup f58 = some ⟨oc58, od58, .func (PySem.W.fnOf "need_direction" "need_direction" (defArgs (top 58)) (defBody (top 58)) (defScope (top 58)) .none kV58 dc58 pm58 an58 cd58 ct58), sl58⟩) (c58 : PySem.W.codeIn K cd58 "need_direction" = true) (k58 : PySem.W.keepIn K (.ref f58) = true) (a59 : PySem.W.nsIn K mainGlobals "has_bar" = some (some (.ref f59))) (l59 : K.lookup f59 = some ⟨oc59, od59, .func (PySem.W.fnOf "has_bar" "has_bar" (defArgs (top 59)) (defBody (top 59)) (defScope (top 59)) .none kV59 dc59 pm59 an59 cd59 ct59), sl59⟩) (c59 : PySem.W.codeIn K cd59 "has_bar" = true) (k59 : PySem.W.keepIn K (.ref f59) = true) (a60 : PySem.W.nsIn K mainGlobals "phase_of" = some (some (.ref f60))) (l60 : K.lookup f60 = some ⟨oc60, od60, .func (PySem.W.fnOf "phase_of" "phase_of" (defArgs (top 60)) (defBody (top 60)) (defScope (top 60)) .none kV60 dc60 pm60 an60 cd60 ct60), sl60⟩) (c60 : PySem.W.codeIn K cd60 "phase_of" = true) (k60 : PySem.W.keepIn K (.ref f60) = true) (a61 : PySem.W.nsIn K mainGlobals "height_of" = some (some (.ref f61))) (l61 : K.lookup f61 = some ⟨oc61, od61, .func (PySem.W.fnOf "height_of" "height_of" (defArgs (top 61)) (defBody (top 61)) (defScope (top 61)) .none kV61 dc61 pm61 an61 cd61 ct61), sl61⟩) (c61 : PySem.W.codeIn K cd61 "height_of" = true) (k61 : PySem.W.keepIn K (.ref f61) = true) (a62 : PySem.W.nsIn K mainGlobals "bar_below" = some (some (.ref f62))) (l62 : K.lookup f62 = some ⟨oc62, od62, .func (PySem.W.fnOf "bar_below" "bar_below" (defArgs (top 62)) (defBody (top 62)) (defScope (top 62)) .none kV62 dc62 pm62 an62 cd62 ct62), sl62⟩) (c62 : PySem.W.codeIn K cd62 "bar_below" = true) (k62 : PySem.W.keepIn K (.ref f62) = true) (a63 : PySem.W.nsIn K mainGlobals "bars_between" = some (some (.ref f63))) (l63 : K.lookup f63 = some ⟨oc63, od63, .func (PySem.W.fnOf "bars_between" "bars_between" (defArgs (top 63)) (defBody (top 63)) (defScope (top 63)) .none (.ref KW63) dc63 pm63 an63 cd63 ct63), sl63⟩) (c63 : PySem.W.codeIn K cd63 "bars_between" = true) (k63 : PySem.W.keepIn K (.ref f63) = true) (a64 : PySem.W.nsIn K mainGlobals "crossing_of" = some (some (.ref f64))) (l64 : K.lookup f64 = some ⟨oc64, od64, .func (PySem.W.fnOf "crossing_of" "crossing_of" (defArgs (top 64)) (defBody (top 64)) (defScope (top 64)) .none kV64 dc64 pm64 an64 cd64 ct64), sl64⟩) (c64 : PySem.W.codeIn K cd64 "crossing_of" = true) (k64 : PySem.W.keepIn K (.ref f64) = true) (a66 : PySem.W.nsIn K mainGlobals "is_point" = some (some (.ref f66))) (l66 : K.lookup f66 = some ⟨oc66, od66, .func (PySem.W.fnOf "is_point" "is_point" (defArgs (top 66)) (defBody (top 66)) (defScope (top 66)) .none kV66 dc66 pm66 an66 cd66 ct66), sl66⟩) (c66 : PySem.W.codeIn K cd66 "is_point" = true) (k66 : PySem.W.keepIn K (.ref f66) = true) (a68 : PySem.W.nsIn K mainGlobals "_law_deck" = some (some (.ref f68))) (l68 : K.lookup f68 = some ⟨oc68, od68, .func (PySem.W.fnOf "_law_deck" "_law_deck" (defArgs (top 68)) (defBody (top 68)) (defScope (top 68)) .none kV68 dc68 pm68 an68 cd68 ct68), sl68⟩) (c68 : PySem.W.codeIn K cd68 "_law_deck" = true) (k68 : PySem.W.keepIn K (.ref f68) = true) (a69 : PySem.W.nsIn K mainGlobals "_law_draw" = some (some (.ref f69))) (l69 : K.lookup f69 = some ⟨oc69, od69, .func (PySem.W.fnOf "_law_draw" "_law_draw" (defArgs (top 69)) (defBody (top 69)) (defScope (top 69)) .none kV69 dc69 pm69 an69 cd69 ct69), sl69⟩) (c69 : PySem.W.codeIn K cd69 "_law_draw" = true) (k69 : PySem.W.keepIn K (.ref f69) = true) (a70 : PySem.W.nsIn K mainGlobals "_law_pick" = some (some (.ref f70))) (l70 : K.lookup f70 = some ⟨oc70, od70, .func (PySem.W.fnOf "_law_pick" "_law_pick" (defArgs (top 70)) (defBody (top 70)) (defScope (top 70)) .none kV70 dc70 pm70 an70 cd70 ct70), sl70⟩) (c70 : PySem.W.codeIn K cd70 "_law_pick" = true) (k70 : PySem.W.keepIn K (.ref f70) = true) (a71 : PySem.W.nsIn K mainGlobals "_law_number" = some (some (.ref f71))) (l71 : K.lookup f71 = some ⟨oc71, od71, .func (PySem.W.fnOf "_law_number" "_law_number" (defArgs (top 71)) (defBody (top 71)) (defScope (top 71)) .none kV71 dc71 pm71 an71 cd71 ct71), sl71⟩) (c71 : PySem.W.codeIn K cd71 "_law_number" = true) (k71 : PySem.W.keepIn K (.ref f71) = true) (a72 : PySem.W.nsIn K mainGlobals "_law_sign" = some (some (.ref f72))) (l72 : K.lookup f72 = some ⟨oc72, od72, .func (PySem.W.fnOf "_law_sign" "_law_sign" (defArgs (top 72)) (defBody (top 72)) (defScope (top 72)) .none kV72 dc72 pm72 an72 cd72 ct72), sl72⟩) (c72 : PySem.W.codeIn K cd72 "_law_sign" = true) (k72 : PySem.W.keepIn K (.ref f72) = true) (a73 : PySem.W.nsIn K mainGlobals "_law_tie" = some (some (.ref f73))) (l73 : K.lookup f73 = some ⟨oc73, od73, .func (PySem.W.fnOf "_law_tie" "_law_tie" (defArgs (top 73)) (defBody (top 73)) (defScope (top 73)) .none kV73 dc73 pm73 an73 cd73 ct73), sl73⟩) (c73 : PySem.W.codeIn K cd73 "_law_tie" = true) (k73 : PySem.W.keepIn K (.ref f73) = true) (a74 : PySem.W.nsIn K mainGlobals "_law_root" = some (some (.ref f74))) (l74 : K.lookup f74 = some ⟨oc74, od74, .func (PySem.W.fnOf "_law_root" "_law_root" (defArgs (top 74)) (defBody (top 74)) (defScope (top 74)) .none kV74 dc74 pm74 an74 cd74 ct74), sl74⟩) (c74 : PySem.W.codeIn K cd74 "_law_root" = true) (k74 : PySem.W.keepIn K (.ref f74) = true) (a75 : PySem.W.nsIn K mainGlobals "_law_under" = some (some (.ref f75))) (l75 : K.lookup f75 = some ⟨oc75, od75, .func (PySem.W.fnOf "_law_under" "_law_under" (defArgs (top 75)) (defBody (top 75)) (defScope (top 75)) .none kV75 dc75 pm75 an75 cd75 ct75), sl75⟩) (c75 : PySem.W.codeIn K cd75 "_law_under" = true) (k75 : PySem.W.keepIn K (.ref f75) = true) (a76 : PySem.W.nsIn K mainGlobals "_law_common" = some (some (.ref f76))) (l76 : K.lookup f76 = some ⟨oc76, od76, .func (PySem.W.fnOf "_law_common" "_law_common" (defArgs (top 76)) (defBody (top 76)) (defScope (top 76)) .none kV76 dc76 pm76 an76 cd76 ct76), sl76⟩) (c76 : PySem.W.codeIn K cd76 "_law_common" = true) (k76 : PySem.W.keepIn K (.ref f76) = true) (a77 : PySem.W.nsIn K mainGlobals "_law_golden" = some (some (.ref f77))) (l77 : K.lookup f77 = some ⟨oc77, od77, .func (PySem.W.fnOf "_law_golden" "_law_golden" (defArgs (top 77)) (defBody (top 77)) (defScope (top 77)) .none kV77 dc77 pm77 an77 cd77 ct77), sl77⟩) (c77 : PySem.W.codeIn K cd77 "_law_golden" = true) (k77 : PySem.W.keepIn K (.ref f77) = true) (a78 : PySem.W.nsIn K mainGlobals "_law_keys" = some (some (.ref f78))) (l78 : K.lookup f78 = some ⟨oc78, od78, .func (PySem.W.fnOf "_law_keys" "_law_keys" (defArgs (top 78)) (defBody (top 78)) (defScope (top 78)) .none kV78 dc78 pm78 an78 cd78 ct78), sl78⟩) (c78 : PySem.W.codeIn K cd78 "_law_keys" = true) (k78 : PySem.W.keepIn K (.ref f78) = true) (a79 : PySem.W.nsIn K mainGlobals "_law_whole" = some (some (.ref f79))) (l79 : K.lookup f79 = some ⟨oc79, od79, .func (PySem.W.fnOf "_law_whole" "_law_whole" (defArgs (top 79)) (defBody (top 79)) (defScope (top 79)) .none kV79 dc79 pm79 an79 cd79 ct79), sl79⟩) (c79 : PySem.W.codeIn K cd79 "_law_whole" = true) (k79 : PySem.W.keepIn K (.ref f79) = true) (a80 : PySem.W.nsIn K mainGlobals "_law_sides" = some (some (.ref f80))) (l80 : K.lookup f80 = some ⟨oc80, od80, .func (PySem.W.fnOf "_law_sides" "_law_sides" (defArgs (top 80)) (defBody (top 80)) (defScope (top 80)) .none kV80 dc80 pm80 an80 cd80 ct80), sl80⟩) (c80 : PySem.W.codeIn K cd80 "_law_sides" = true) (k80 : PySem.W.keepIn K (.ref f80) = true) (a81 : PySem.W.nsIn K mainGlobals "_law_world" = some (some (.ref f81))) (l81 : K.lookup f81 = some ⟨oc81, od81, .func (PySem.W.fnOf "_law_world" "_law_world" (defArgs (top 81)) (defBody (top 81)) (defScope (top 81)) .none kV81 dc81 pm81 an81 cd81 ct81), sl81⟩) (c81 : PySem.W.codeIn K cd81 "_law_world" = true) (k81 : PySem.W.keepIn K (.ref f81) = true) (a82 : PySem.W.nsIn K mainGlobals "_law_floor" = some (some (.ref f82))) (l82 : K.lookup f82 = some ⟨oc82, od82, .func (PySem.W.fnOf "_law_floor" "_law_floor" (defArgs (top 82)) (defBody (top 82)) (defScope (top 82)) .none kV82 dc82 pm82 an82 cd82 ct82), sl82⟩) (c82 : PySem.W.codeIn K cd82 "_law_floor" = true) (k82 : PySem.W.keepIn K (.ref f82) = true) (a83 : PySem.W.nsIn K mainGlobals "_law_phase" = some (some (.ref f83))) (l83 : K.lookup f83 = some ⟨oc83, od83, .func (PySem.W.fnOf "_law_phase" "_law_phase" (defArgs (top 83)) (defBody (top 83)) (defScope (top 83)) .none kV83 dc83 pm83 an83 cd83 ct83), sl83⟩) (c83 : PySem.W.codeIn K cd83 "_law_phase" = true) (k83 : PySem.W.keepIn K (.ref f83) = true) (a84 : PySem.W.nsIn K mainGlobals "_law_bar" = some (some (.ref f84))) (l84 : K.lookup f84 = some ⟨oc84, od84, .func (PySem.W.fnOf "_law_bar" "_law_bar" (defArgs (top 84)) (defBody (top 84)) (defScope (top 84)) .none kV84 dc84 pm84 an84 cd84 ct84), sl84⟩) (c84 : PySem.W.codeIn K cd84 "_law_bar" = true) (k84 : PySem.W.keepIn K (.ref f84) = true) (a85 : PySem.W.nsIn K mainGlobals "_law_bar_height" = some (some (.ref f85))) (l85 : K.lookup f85 = some ⟨oc85, od85, .func (PySem.W.fnOf "_law_bar_height" "_law_bar_height" (defArgs (top 85)) (defBody (top 85)) (defScope (top 85)) .none kV85 dc85 pm85 an85 cd85 ct85), sl85⟩) (c85 : PySem.W.codeIn K cd85 "_law_bar_height" = true) (k85 : PySem.W.keepIn K (.ref f85) = true) (a86 : PySem.W.nsIn K mainGlobals "_law_same" = some (some (.ref f86))) (l86 : K.lookup f86 = some ⟨oc86, od86, .func (PySem.W.fnOf "_law_same" "_law_same" (defArgs (top 86)) (defBody (top 86)) (defScope (top 86)) .none kV86 dc86 pm86 an86 cd86 ct86), sl86⟩) (c86 : PySem.W.codeIn K cd86 "_law_same" = true) (k86 : PySem.W.keepIn K (.ref f86) = true) (a87 : PySem.W.nsIn K mainGlobals "_law_place" = some (some (.ref f87))) (l87 : K.lookup f87 = some ⟨oc87, od87, .func (PySem.W.fnOf "_law_place" "_law_place" (defArgs (top 87)) (defBody (top 87)) (defScope (top 87)) .none kV87 dc87 pm87 an87 cd87 ct87), sl87⟩) (c87 : PySem.W.codeIn K cd87 "_law_place" = true) (k87 : PySem.W.keepIn K (.ref f87) = true) (a88 : PySem.W.nsIn K mainGlobals "_law_compared" = some (some (.ref f88))) (l88 : K.lookup f88 = some ⟨oc88, od88, .func (PySem.W.fnOf "_law_compared" "_law_compared" (defArgs (top 88)) (defBody (top 88)) (defScope (top 88)) .none kV88 dc88 pm88 an88 cd88 ct88), sl88⟩) (c88 : PySem.W.codeIn K cd88 "_law_compared" = true) (k88 : PySem.W.keepIn K (.ref f88) = true) (a89 : PySem.W.nsIn K mainGlobals "_law_below" = some (some (.ref f89))) (l89 : K.lookup f89 = some ⟨oc89, od89, .func (PySem.W.fnOf "_law_below" "_law_below" (defArgs (top 89)) (defBody (top 89)) (defScope (top 89)) .none kV89 dc89 pm89 an89 cd89 ct89), sl89⟩) (c89 : PySem.W.codeIn K cd89 "_law_below" = true) (k89 : PySem.W.keepIn K (.ref f89) = true) (a90 : PySem.W.nsIn K mainGlobals "_law_height" = some (some (.ref f90))) (l90 : K.lookup f90 = some ⟨oc90, od90, .func (PySem.W.fnOf "_law_height" "_law_height" (defArgs (top 90)) (defBody (top 90)) (defScope (top 90)) .none kV90 dc90 pm90 an90 cd90 ct90), sl90⟩) (c90 : PySem.W.codeIn K cd90 "_law_height" = true) (k90 : PySem.W.keepIn K (.ref f90) = true) (a91 : PySem.W.nsIn K mainGlobals "_law_told" = some (some (.ref f91))) (l91 : K.lookup f91 = some ⟨oc91, od91, .func (PySem.W.fnOf "_law_told" "_law_told" (defArgs (top 91)) (defBody (top 91)) (defScope (top 91)) .none kV91 dc91 pm91 an91 cd91 ct91), sl91⟩) (c91 : PySem.W.codeIn K cd91 "_law_told" = true) (k91 : PySem.W.keepIn K (.ref f91) = true) (a92 : PySem.W.nsIn K mainGlobals "_law_is_crossing_right" = some (some (.ref f92))) (l92 : K.lookup f92 = some ⟨oc92, od92, .func (PySem.W.fnOf "_law_is_crossing_right" "_law_is_crossing_right" (defArgs (top 92)) (defBody (top 92)) (defScope (top 92)) .none kV92 dc92 pm92 an92 cd92 ct92), sl92⟩) (c92 : PySem.W.codeIn K cd92 "_law_is_crossing_right" = true) (k92 : PySem.W.keepIn K (.ref f92) = true) (a93 : PySem.W.nsIn K mainGlobals "law" = some (some (.ref f93))) (l93 : K.lookup f93 = some ⟨oc93, od93, .func (PySem.W.fnOf "law" "law" (defArgs (top 93)) (defBody (top 93)) (defScope (top 93)) .none kV93 dc93 pm93 an93 cd93 ct93), sl93⟩) (c93 : PySem.W.codeIn K cd93 "law" = true) (k93 : PySem.W.keepIn K (.ref f93) = true)
    (kw63 : PySem.W.nsIn K KW63 "most" = some (some (.int 400 kt63))) (z_abs : PySem.W.nsIn K mainGlobals "abs" = some none) (z_all : PySem.W.nsIn K mainGlobals "all" = some none) (z_bool : PySem.W.nsIn K mainGlobals "bool" = some none) (z_int : PySem.W.nsIn K mainGlobals "int" = some none) (z_isinstance : PySem.W.nsIn K mainGlobals "isinstance" = some none) (z_len : PySem.W.nsIn K mainGlobals "len" = some none) (z_list : PySem.W.nsIn K mainGlobals "list" = some none) (z_max : PySem.W.nsIn K mainGlobals "max" = some none) (z_range : PySem.W.nsIn K mainGlobals "range" = some none) (z_repr : PySem.W.nsIn K mainGlobals "repr" = some none) (z_sorted : PySem.W.nsIn K mainGlobals "sorted" = some none) (z_tuple : PySem.W.nsIn K mainGlobals "tuple" = some none) (z_gcd : PySem.W.nsIn K mainGlobals "gcd" = some (some (.builtin "math.gcd"))) (z_isqrt : PySem.W.nsIn K mainGlobals "isqrt" = some (some (.builtin "math.isqrt"))) (e1_BadBar : PySem.W.nsIn K mainGlobals "BadBar" = some (some (.ref C_BadBar))) (e4_BadBar : PySem.W.subIn K (.ref C_BadBar) (.type "BaseException") = some true) (e5_BadBar : PySem.W.typeIn K (.ref C_BadBar) = some (.type "type")) (x1_BadBar : PySem.W.excInitIn K C_BadBar exT "Exception.__new__" = true) (x2_BadBar : PySem.W.excOver K C_BadBar exT = true) (x3_BadBar : PySem.W.takerIn K C_BadBar "thing" = some none) (x4_BadBar : PySem.W.findIn K (.ref C_BadBar) "thing" = some none) (x5_BadBar : PySem.W.findIn K (.ref C_BadBar) "__setattr__" = some (some (.builtin "object.__setattr__"))) (x6_BadBar : PySem.W.findIn K (.ref C_BadBar) "__init__" = some (some (.ref fI_BadBar))) (x7_BadBar : PySem.W.typeIn K (.ref fI_BadBar) = some (.type "function")) (e3_BadBar : PySem.W.keepIn K (.ref C_BadBar) = true) (x9_BadBar : PySem.W.hasDictIn K C_BadBar = true) (y1_BadBar : K.lookup fI_BadBar = some ⟨oc_BadBar, od_BadBar, .func (PySem.W.fnOf "__init__" "BadBar.__init__" (defArgs (initS 36)) (defBody (initS 36)) (defScope (initS 36)) .none kV_BadBar dc_BadBar pm_BadBar an_BadBar cd_BadBar ct_BadBar), sl_BadBar⟩) (y2_BadBar : PySem.W.codeIn K cd_BadBar "BadBar.__init__" = true) (y3_BadBar : PySem.W.keepIn K (.ref fI_BadBar) = true) (g1_BadBar : PySem.W.findIn K (.ref C_BadBar) "__getattribute__" = some (some (.builtin "BaseException.__getattribute__"))) (g2_BadBar : PySem.W.findIn K (.ref C_BadBar) "__getattr__" = some none) (g3_BadBar : PySem.W.findIn K (.ref C_BadBar) "__class__" = some (some (.builtin "object.__class__"))) (g4_BadBar : PySem.W.mroIn K C_BadBar (.type "object") = some true) (e1_BadDirection : PySem.W.nsIn K mainGlobals "BadDirection" = some (some (.ref C_BadDirection))) (e4_BadDirection : PySem.W.subIn K (.ref C_BadDirection) (.type "BaseException") = some true) (e5_BadDirection : PySem.W.typeIn K (.ref C_BadDirection) = some (.type "type")) (x1_BadDirection : PySem.W.excInitIn K C_BadDirection exT "Exception.__new__" = true) (x2_BadDirection : PySem.W.excOver K C_BadDirection exT = true) (x3_BadDirection : PySem.W.takerIn K C_BadDirection "thing" = some none) (x4_BadDirection : PySem.W.findIn K (.ref C_BadDirection) "thing" = some none) (x5_BadDirection : PySem.W.findIn K (.ref C_BadDirection) "__setattr__" = some (some (.builtin "object.__setattr__"))) (x6_BadDirection : PySem.W.findIn K (.ref C_BadDirection) "__init__" = some (some (.ref fI_BadDirection))) (x7_BadDirection : PySem.W.typeIn K (.ref fI_BadDirection) = some (.type "function")) (e3_BadDirection : PySem.W.keepIn K (.ref C_BadDirection) = true) (x9_BadDirection : PySem.W.hasDictIn K C_BadDirection = true) (y1_BadDirection : K.lookup fI_BadDirection = some ⟨oc_BadDirection, od_BadDirection, .func (PySem.W.fnOf "__init__" "BadDirection.__init__" (defArgs (initS 34)) (defBody (initS 34)) (defScope (initS 34)) .none kV_BadDirection dc_BadDirection pm_BadDirection an_BadDirection cd_BadDirection ct_BadDirection), sl_BadDirection⟩) (y2_BadDirection : PySem.W.codeIn K cd_BadDirection "BadDirection.__init__" = true) (y3_BadDirection : PySem.W.keepIn K (.ref fI_BadDirection) = true) (g1_BadDirection : PySem.W.findIn K (.ref C_BadDirection) "__getattribute__" = some (some (.builtin "BaseException.__getattribute__"))) (g2_BadDirection : PySem.W.findIn K (.ref C_BadDirection) "__getattr__" = some none) (g3_BadDirection : PySem.W.findIn K (.ref C_BadDirection) "__class__" = some (some (.builtin "object.__class__"))) (g4_BadDirection : PySem.W.mroIn K C_BadDirection (.type "object") = some true) (e1_BadNumber : PySem.W.nsIn K mainGlobals "BadNumber" = some (some (.ref C_BadNumber))) (e4_BadNumber : PySem.W.subIn K (.ref C_BadNumber) (.type "BaseException") = some true) (e5_BadNumber : PySem.W.typeIn K (.ref C_BadNumber) = some (.type "type")) (x1_BadNumber : PySem.W.excInitIn K C_BadNumber exT "Exception.__new__" = true) (x2_BadNumber : PySem.W.excOver K C_BadNumber exT = true) (x3_BadNumber : PySem.W.takerIn K C_BadNumber "thing" = some none) (x4_BadNumber : PySem.W.findIn K (.ref C_BadNumber) "thing" = some none) (x5_BadNumber : PySem.W.findIn K (.ref C_BadNumber) "__setattr__" = some (some (.builtin "object.__setattr__"))) (x6_BadNumber : PySem.W.findIn K (.ref C_BadNumber) "__init__" = some (some (.ref fI_BadNumber))) (x7_BadNumber : PySem.W.typeIn K (.ref fI_BadNumber) = some (.type "function")) (e3_BadNumber : PySem.W.keepIn K (.ref C_BadNumber) = true) (x9_BadNumber : PySem.W.hasDictIn K C_BadNumber = true) (y1_BadNumber : K.lookup fI_BadNumber = some ⟨oc_BadNumber, od_BadNumber, .func (PySem.W.fnOf "__init__" "BadNumber.__init__" (defArgs (initS 32)) (defBody (initS 32)) (defScope (initS 32)) .none kV_BadNumber dc_BadNumber pm_BadNumber an_BadNumber cd_BadNumber ct_BadNumber), sl_BadNumber⟩) (y2_BadNumber : PySem.W.codeIn K cd_BadNumber "BadNumber.__init__" = true) (y3_BadNumber : PySem.W.keepIn K (.ref fI_BadNumber) = true) (g1_BadNumber : PySem.W.findIn K (.ref C_BadNumber) "__getattribute__" = some (some (.builtin "BaseException.__getattribute__"))) (g2_BadNumber : PySem.W.findIn K (.ref C_BadNumber) "__getattr__" = some none) (g3_BadNumber : PySem.W.findIn K (.ref C_BadNumber) "__class__" = some (some (.builtin "object.__class__"))) (g4_BadNumber : PySem.W.mroIn K C_BadNumber (.type "object") = some true) (e1_BadSide : PySem.W.nsIn K mainGlobals "BadSide" = some (some (.ref C_BadSide))) (e4_BadSide : PySem.W.subIn K (.ref C_BadSide) (.type "BaseException") = some true) (e5_BadSide : PySem.W.typeIn K (.ref C_BadSide) = some (.type "type")) (x1_BadSide : PySem.W.excInitIn K C_BadSide exT "Exception.__new__" = true) (x2_BadSide : PySem.W.excOver K C_BadSide exT = true) (x3_BadSide : PySem.W.takerIn K C_BadSide "thing" = some none) (x4_BadSide : PySem.W.findIn K (.ref C_BadSide) "thing" = some none) (x5_BadSide : PySem.W.findIn K (.ref C_BadSide) "__setattr__" = some (some (.builtin "object.__setattr__"))) (x6_BadSide : PySem.W.findIn K (.ref C_BadSide) "__init__" = some (some (.ref fI_BadSide))) (x7_BadSide : PySem.W.typeIn K (.ref fI_BadSide) = some (.type "function")) (e3_BadSide : PySem.W.keepIn K (.ref C_BadSide) = true) (x9_BadSide : PySem.W.hasDictIn K C_BadSide = true) (y1_BadSide : K.lookup fI_BadSide = some ⟨oc_BadSide, od_BadSide, .func (PySem.W.fnOf "__init__" "BadSide.__init__" (defArgs (initS 35)) (defBody (initS 35)) (defScope (initS 35)) .none kV_BadSide dc_BadSide pm_BadSide an_BadSide cd_BadSide ct_BadSide), sl_BadSide⟩) (y2_BadSide : PySem.W.codeIn K cd_BadSide "BadSide.__init__" = true) (y3_BadSide : PySem.W.keepIn K (.ref fI_BadSide) = true) (g1_BadSide : PySem.W.findIn K (.ref C_BadSide) "__getattribute__" = some (some (.builtin "BaseException.__getattribute__"))) (g2_BadSide : PySem.W.findIn K (.ref C_BadSide) "__getattr__" = some none) (g3_BadSide : PySem.W.findIn K (.ref C_BadSide) "__class__" = some (some (.builtin "object.__class__"))) (g4_BadSide : PySem.W.mroIn K C_BadSide (.type "object") = some true) (e1_TooMany : PySem.W.nsIn K mainGlobals "TooMany" = some (some (.ref C_TooMany))) (e4_TooMany : PySem.W.subIn K (.ref C_TooMany) (.type "BaseException") = some true) (e5_TooMany : PySem.W.typeIn K (.ref C_TooMany) = some (.type "type")) (q1_TooMany : (PySem.W.clsIn K C_TooMany).isSome = true) (x1_TooMany : PySem.W.excInitIn K C_TooMany exT "Exception.__new__" = true) (x2_TooMany : PySem.W.excOver K C_TooMany exT = true) (x3_TooMany : PySem.W.takerIn K C_TooMany "most" = some none) (x4_TooMany : PySem.W.findIn K (.ref C_TooMany) "most" = some none) (x5_TooMany : PySem.W.findIn K (.ref C_TooMany) "__setattr__" = some (some (.builtin "object.__setattr__"))) (x6_TooMany : PySem.W.findIn K (.ref C_TooMany) "__init__" = some (some (.ref fI_TooMany))) (x7_TooMany : PySem.W.typeIn K (.ref fI_TooMany) = some (.type "function")) (e3_TooMany : PySem.W.keepIn K (.ref C_TooMany) = true) (x9_TooMany : PySem.W.hasDictIn K C_TooMany = true) (y1_TooMany : K.lookup fI_TooMany = some ⟨oc_TooMany, od_TooMany, .func (PySem.W.fnOf "__init__" "TooMany.__init__" (defArgs (initS 31)) (defBody (initS 31)) (defScope (initS 31)) .none kV_TooMany dc_TooMany pm_TooMany an_TooMany cd_TooMany ct_TooMany), sl_TooMany⟩) (y2_TooMany : PySem.W.codeIn K cd_TooMany "TooMany.__init__" = true) (y3_TooMany : PySem.W.keepIn K (.ref fI_TooMany) = true) (g1_TooMany : PySem.W.findIn K (.ref C_TooMany) "__getattribute__" = some (some (.builtin "BaseException.__getattribute__"))) (g2_TooMany : PySem.W.findIn K (.ref C_TooMany) "__getattr__" = some none) (g3_TooMany : PySem.W.findIn K (.ref C_TooMany) "__class__" = some (some (.builtin "object.__class__"))) (g4_TooMany : PySem.W.mroIn K C_TooMany (.type "object") = some true) (r_BadBar_TooMany : PySem.W.subIn K (.ref C_BadBar) (.ref C_TooMany) = some false) (r_BadDirection_TooMany : PySem.W.subIn K (.ref C_BadDirection) (.ref C_TooMany) = some false) (r_BadNumber_TooMany : PySem.W.subIn K (.ref C_BadNumber) (.ref C_TooMany) = some false) (r_BadSide_TooMany : PySem.W.subIn K (.ref C_BadSide) (.ref C_TooMany) = some false) (r_TooMany_TooMany : PySem.W.subIn K (.ref C_TooMany) (.ref C_TooMany) = some true) (d1 : PySem.W.nsOkIn K cStatics = true) (d2 : PySem.W.nsIn K cStatics "sys.int_max_str_digits" = some none) (G_FIRST_SIDE : PySem.W.nsIn K mainGlobals "FIRST_SIDE" = some (some (.ref Ty1))) (Fy1 : K.lookup Ty1 = some ⟨.type "tuple", Dy1, .seq #[(.int 1 y2), (.int (-1) y3), (.int 1 y4), (.int 1 y5), (.int (-1) y6)] Ny1, Sy1⟩) (G_NO_SIDE : PySem.W.nsIn K mainGlobals "NO_SIDE" = some (some (.ref Ty7))) (Fy7 : K.lookup Ty7 = some ⟨.type "tuple", Dy7, .seq #[(.int 0 y8), (.int 0 y9), (.int 0 y10), (.int 0 y11), (.int 0 y12)] Ny7, Sy7⟩) (gn : PySem.W.specialIn K (.builtin "object.__class__") "__get__" = some (some (.builtin "getset_descriptor.__get__"))) (gt : PySem.W.takesIn K (.builtin "object.__class__") = some true) (o1_Floor : PySem.W.nsIn K mainGlobals "Floor" = some (some (.ref C_Floor))) (o2_Floor : PySem.W.plainGet K C_Floor Str.empty = true) (o3_Floor : PySem.W.hasDictIn K C_Floor = true) (o4_Floor : PySem.W.plainOver K C_Floor = true) (o5_Floor : PySem.W.findIn K (.ref C_Floor) "__setattr__" = some (some (.builtin "object.__setattr__"))) (o6_Floor : PySem.W.findIn K (.ref C_Floor) "__class__" = some (some (.builtin "object.__class__"))) (o7_Floor : PySem.W.mroIn K C_Floor (.type "object") = some true) (of_Floor_all_keys : PySem.W.findIn K (.ref C_Floor) "all_keys" = some none) (of_Floor_side : PySem.W.findIn K (.ref C_Floor) "side" = some none) (ob_Floor_NoneType : PySem.W.kitOne K (.type "NoneType") (.ref C_Floor) = some false) (ot_Floor_NoneType : PySem.W.kitOne K (.ref C_Floor) (.type "NoneType") = some false) (os_Floor_NoneType : PySem.W.subIn K (.type "NoneType") (.ref C_Floor) = some false) (ob_Floor_bool : PySem.W.kitOne K (.type "bool") (.ref C_Floor) = some false) (ot_Floor_bool : PySem.W.kitOne K (.ref C_Floor) (.type "bool") = some false) (os_Floor_bool : PySem.W.subIn K (.type "bool") (.ref C_Floor) = some false) (ob_Floor_int : PySem.W.kitOne K (.type "int") (.ref C_Floor) = some false) (ot_Floor_int : PySem.W.kitOne K (.ref C_Floor) (.type "int") = some false) (os_Floor_int : PySem.W.subIn K (.type "int") (.ref C_Floor) = some false) (ob_Floor_str : PySem.W.kitOne K (.type "str") (.ref C_Floor) = some false) (ot_Floor_str : PySem.W.kitOne K (.ref C_Floor) (.type "str") = some false) (os_Floor_str : PySem.W.subIn K (.type "str") (.ref C_Floor) = some false) (ob_Floor_tuple : PySem.W.kitOne K (.type "tuple") (.ref C_Floor) = some false) (ot_Floor_tuple : PySem.W.kitOne K (.ref C_Floor) (.type "tuple") = some false) (os_Floor_tuple : PySem.W.subIn K (.type "tuple") (.ref C_Floor) = some false) (ob_Floor_list : PySem.W.kitOne K (.type "list") (.ref C_Floor) = some false) (ot_Floor_list : PySem.W.kitOne K (.ref C_Floor) (.type "list") = some false) (os_Floor_list : PySem.W.subIn K (.type "list") (.ref C_Floor) = some false) (ob_Floor_dict : PySem.W.kitOne K (.type "dict") (.ref C_Floor) = some false) (ot_Floor_dict : PySem.W.kitOne K (.ref C_Floor) (.type "dict") = some false) (os_Floor_dict : PySem.W.subIn K (.type "dict") (.ref C_Floor) = some false) (oo_Floor : PySem.W.kitOne K (.ref C_Floor) (.ref C_Floor) = some true) (m1_Floor : PySem.W.makesIn K C_Floor = true) (m2_Floor : PySem.W.findIn K (.ref C_Floor) "__init__" = some (some (.ref fI_Floor))) (m3_Floor : PySem.W.isFn K (.ref fI_Floor) = true) (m4_Floor : PySem.W.keepIn K (.ref C_Floor) = true) (lI_Floor : K.lookup fI_Floor = some ⟨ocI_Floor, odI_Floor, .func (PySem.W.fnOf "__init__" "Floor.__init__" (defArgs (methS 52 0)) (defBody (methS 52 0)) (defScope (methS 52 0)) (.ref DI_Floor) kVI_Floor dcI_Floor pmI_Floor anI_Floor cdI_Floor ctI_Floor), slI_Floor⟩) (cI_Floor : PySem.W.codeIn K cdI_Floor "Floor.__init__" = true) (kI_Floor : PySem.W.keepIn K (.ref fI_Floor) = true) (ddI_Floor : K.lookup DI_Floor = some ⟨DCI_Floor, DDI_Floor, .seq #[(.ref Ty13)] DNI_Floor, DSI_Floor⟩) (Fy13 : K.lookup Ty13 = some ⟨.type "tuple", Dy13, .seq #[(.int 0 y14), (.int 0 y15), (.int 0 y16), (.int 0 y17), (.int 0 y18)] Ny13, Sy13⟩) :
    ∃ fd : FuncData, (∀ (s : Shared) (u : Value), BindsTo s fd ⟨[u], []⟩ [("_law_script", u)]) ∧ ∀ base : Heap, K.In base → base.Ns mainGlobals mg → FnG l.prog w K mg base 8 fa fd ["_law_script"] (spLaw K []) := by
  have e := hfa.symm.trans (PySem.W.mg_of X G a93)
  cases e
  have bt : Bt mg := ⟨PySem.W.mg_none_of X G z_abs, PySem.W.mg_none_of X G z_all, PySem.W.mg_none_of X G z_bool, PySem.W.mg_none_of X G z_int, PySem.W.mg_none_of X G z_isinstance, PySem.W.mg_none_of X G z_len, PySem.W.mg_none_of X G z_list, PySem.W.mg_none_of X G z_max, PySem.W.mg_none_of X G z_range, PySem.W.mg_none_of X G z_repr, PySem.W.mg_none_of X G z_sorted, PySem.W.mg_none_of X G z_tuple, PySem.W.mg_of X G z_gcd, PySem.W.mg_of X G z_isqrt⟩
  have m_BadBar : mg "BadBar" = some (.ref C_BadBar) := PySem.W.mg_of X G e1_BadBar
  have m_BadDirection : mg "BadDirection" = some (.ref C_BadDirection) := PySem.W.mg_of X G e1_BadDirection
  have m_BadNumber : mg "BadNumber" = some (.ref C_BadNumber) := PySem.W.mg_of X G e1_BadNumber
  have m_BadSide : mg "BadSide" = some (.ref C_BadSide) := PySem.W.mg_of X G e1_BadSide
  have m_TooMany : mg "TooMany" = some (.ref C_TooMany) := PySem.W.mg_of X G e1_TooMany
  have T_BadBar : ErC K mg "BadBar" "thing" C_BadBar fI_BadBar := ⟨m_BadBar, x1_BadBar, x2_BadBar, x3_BadBar, x4_BadBar, x5_BadBar, x6_BadBar, x7_BadBar, e3_BadBar, e4_BadBar, e5_BadBar, x9_BadBar⟩
  have N_BadBar := in_BadBar (fun_mk (x := "__init__") (st := initS 36) y1_BadBar y2_BadBar y3_BadBar)
  have T_BadDirection : ErC K mg "BadDirection" "thing" C_BadDirection fI_BadDirection := ⟨m_BadDirection, x1_BadDirection, x2_BadDirection, x3_BadDirection, x4_BadDirection, x5_BadDirection, x6_BadDirection, x7_BadDirection, e3_BadDirection, e4_BadDirection, e5_BadDirection, x9_BadDirection⟩
  have N_BadDirection := in_BadDirection (fun_mk (x := "__init__") (st := initS 34) y1_BadDirection y2_BadDirection y3_BadDirection)
  have T_BadNumber : ErC K mg "BadNumber" "thing" C_BadNumber fI_BadNumber := ⟨m_BadNumber, x1_BadNumber, x2_BadNumber, x3_BadNumber, x4_BadNumber, x5_BadNumber, x6_BadNumber, x7_BadNumber, e3_BadNumber, e4_BadNumber, e5_BadNumber, x9_BadNumber⟩
  have N_BadNumber := in_BadNumber (fun_mk (x := "__init__") (st := initS 32) y1_BadNumber y2_BadNumber y3_BadNumber)
  have T_BadSide : ErC K mg "BadSide" "thing" C_BadSide fI_BadSide := ⟨m_BadSide, x1_BadSide, x2_BadSide, x3_BadSide, x4_BadSide, x5_BadSide, x6_BadSide, x7_BadSide, e3_BadSide, e4_BadSide, e5_BadSide, x9_BadSide⟩
  have N_BadSide := in_BadSide (fun_mk (x := "__init__") (st := initS 35) y1_BadSide y2_BadSide y3_BadSide)
  have T_TooMany : ErC K mg "TooMany" "most" C_TooMany fI_TooMany := ⟨m_TooMany, x1_TooMany, x2_TooMany, x3_TooMany, x4_TooMany, x5_TooMany, x6_TooMany, x7_TooMany, e3_TooMany, e4_TooMany, e5_TooMany, x9_TooMany⟩
  have N_TooMany := in_TooMany (fun_mk (x := "__init__") (st := initS 31) y1_TooMany y2_TooMany y3_TooMany)
  have tab : ClsTab ⟨K, mg⟩ clsM := fun x y b u v h hu hv => by
    have hm := look3_mem h
    simp only [clsML, List.mem_cons, List.not_mem_nil, or_false, Prod.mk.injEq] at hm
    rcases hm with ⟨rfl, rfl, rfl⟩ | ⟨rfl, rfl, rfl⟩ | ⟨rfl, rfl, rfl⟩ | ⟨rfl, rfl, rfl⟩ | ⟨rfl, rfl, rfl⟩
    · cases m_BadBar.symm.trans hu; cases m_TooMany.symm.trans hv; exact exm_of q1_TooMany e4_TooMany e5_TooMany r_BadBar_TooMany
    · cases m_BadDirection.symm.trans hu; cases m_TooMany.symm.trans hv; exact exm_of q1_TooMany e4_TooMany e5_TooMany r_BadDirection_TooMany
    · cases m_BadNumber.symm.trans hu; cases m_TooMany.symm.trans hv; exact exm_of q1_TooMany e4_TooMany e5_TooMany r_BadNumber_TooMany
    · cases m_BadSide.symm.trans hu; cases m_TooMany.symm.trans hv; exact exm_of q1_TooMany e4_TooMany e5_TooMany r_BadSide_TooMany
    · cases m_TooMany.symm.trans hu; cases m_TooMany.symm.trans hv; exact exm_of q1_TooMany e4_TooMany e5_TooMany r_TooMany_TooMany
  have get_most : GetTab ⟨K, mg⟩ knownE_most "most" := fun nm hk => by
    simp only [knownE_most, Bool.or_eq_true, beq_iff_eq] at hk
    rcases hk with rfl
    · exact ⟨C_TooMany, m_TooMany, ⟨g1_TooMany, g2_TooMany, e4_TooMany, x9_TooMany, x4_TooMany⟩⟩
  have get_thing : GetTab ⟨K, mg⟩ knownE_thing "thing" := fun nm hk => by
    simp only [knownE_thing, Bool.or_eq_true, beq_iff_eq] at hk
    rcases hk with (((rfl | rfl) | rfl) | rfl)
    · exact ⟨C_BadBar, m_BadBar, ⟨g1_BadBar, g2_BadBar, e4_BadBar, x9_BadBar, x4_BadBar⟩⟩
    · exact ⟨C_BadDirection, m_BadDirection, ⟨g1_BadDirection, g2_BadDirection, e4_BadDirection, x9_BadDirection, x4_BadDirection⟩⟩
    · exact ⟨C_BadNumber, m_BadNumber, ⟨g1_BadNumber, g2_BadNumber, e4_BadNumber, x9_BadNumber, x4_BadNumber⟩⟩
    · exact ⟨C_BadSide, m_BadSide, ⟨g1_BadSide, g2_BadSide, e4_BadSide, x9_BadSide, x4_BadSide⟩⟩
  have m_Floor : mg "Floor" = some (.ref C_Floor) := PySem.W.mg_of X G o1_Floor
  have cl_Floor : Cls K C_Floor := ⟨o2_Floor, o3_Floor, o4_Floor, o5_Floor⟩
  have O_Floor : ObC ⟨K, mg⟩ "Floor" C_Floor := ⟨m_Floor, cl_Floor, o6_Floor, gn, gt, o7_Floor⟩
  have obt : ObTab ⟨K, mg⟩ knownO := obtab_one O_Floor (fun t ht => by
    simp only [tyL, List.mem_cons, List.not_mem_nil, or_false] at ht
    rcases ht with rfl | rfl | rfl | rfl | rfl | rfl | rfl
    · exact ob_Floor_NoneType
    · exact ob_Floor_bool
    · exact ob_Floor_int
    · exact ob_Floor_str
    · exact ob_Floor_tuple
    · exact ob_Floor_list
    · exact ob_Floor_dict) (fun t ht => by
    simp only [tyL, List.mem_cons, List.not_mem_nil, or_false] at ht
    rcases ht with rfl | rfl | rfl | rfl | rfl | rfl | rfl
    · exact ot_Floor_NoneType
    · exact ot_Floor_bool
    · exact ot_Floor_int
    · exact ot_Floor_str
    · exact ot_Floor_tuple
    · exact ot_Floor_list
    · exact ot_Floor_dict) oo_Floor (fun t ht => by
    simp only [tyL, List.mem_cons, List.not_mem_nil, or_false] at ht
    rcases ht with rfl | rfl | rfl | rfl | rfl | rfl | rfl
    · exact os_Floor_NoneType
    · exact os_Floor_bool
    · exact os_Floor_int
    · exact os_Floor_str
    · exact os_Floor_tuple
    · exact os_Floor_list
    · exact os_Floor_dict)
  have fldt : FldTab ⟨K, mg⟩ fldO := fun n f h => by
    simp only [fldO, Bool.or_eq_true, Bool.and_eq_true, beq_iff_eq] at h
    rcases h with (⟨rfl, rfl⟩ | ⟨rfl, rfl⟩)
    · exact ⟨C_Floor, m_Floor, cl_Floor, of_Floor_all_keys⟩
    · exact ⟨C_Floor, m_Floor, cl_Floor, of_Floor_side⟩
  have gl_FIRST_SIDE : GlobC ⟨K, mg⟩ "FIRST_SIDE" (.tup [.int 1, .int (-1), .int 1, .int 1, .int (-1)]) := ⟨(.ref Ty1), (.ref Ty1), PySem.W.mg_of X G G_FIRST_SIDE, (show RelV (.ref Ty1) (.ref Ty1) from rfl), fun F => rep_ktup (K := ⟨K, mg⟩) Fy1 (show (5 : Nat) ≤ sizeLine by decide) (.cons (relv_int 1 y2) (.cons (relv_int (-1) y3) (.cons (relv_int 1 y4) (.cons (relv_int 1 y5) (.cons (relv_int (-1) y6) .nil))))) (fun F => (.cons (.int _) (.cons (.int _) (.cons (.int _) (.cons (.int _) (.cons (.int _) .nil)))))) F⟩
  have gl_NO_SIDE : GlobC ⟨K, mg⟩ "NO_SIDE" (.tup [.int 0, .int 0, .int 0, .int 0, .int 0]) := ⟨(.ref Ty7), (.ref Ty7), PySem.W.mg_of X G G_NO_SIDE, (show RelV (.ref Ty7) (.ref Ty7) from rfl), fun F => rep_ktup (K := ⟨K, mg⟩) Fy7 (show (5 : Nat) ≤ sizeLine by decide) (.cons (relv_int 0 y8) (.cons (relv_int 0 y9) (.cons (relv_int 0 y10) (.cons (relv_int 0 y11) (.cons (relv_int 0 y12) .nil))))) (fun F => (.cons (.int _) (.cons (.int _) (.cons (.int _) (.cons (.int _) (.cons (.int _) .nil)))))) F⟩
  have ct : Ct K mg := ⟨⟨C_BadBar, fI_BadBar, T_BadBar, N_BadBar⟩, ⟨C_BadDirection, fI_BadDirection, T_BadDirection, N_BadDirection⟩, ⟨C_BadNumber, fI_BadNumber, T_BadNumber, N_BadNumber⟩, ⟨C_BadSide, fI_BadSide, T_BadSide, N_BadSide⟩, ⟨C_TooMany, fI_TooMany, T_TooMany, N_TooMany⟩, ⟨C_TooMany, m_TooMany⟩, tab, get_most, get_thing, ⟨d1, d2⟩, obt, fldt, gl_FIRST_SIDE, gl_NO_SIDE⟩
  have F2 := fun_mk (st := top 2) l2 c2 k2
  have F3 := fun_mk (st := top 3) l3 c3 k3
  have F4 := fun_mk (st := top 4) l4 c4 k4
  have F5 := fun_mk (st := top 5) l5 c5 k5
  have F6 := fun_mk (st := top 6) l6 c6 k6
  have F7 := fun_mk (st := top 7) l7 c7 k7
  have F8 := fun_mk (st := top 8) l8 c8 k8
  have F9 := fun_mk (st := top 9) l9 c9 k9
  have F10 := fun_mk (st := top 10) l10 c10 k10
  have F11 := fun_mk (st := top 11) l11 c11 k11
  have F12 := fun_mk (st := top 12) l12 c12 k12
  have F13 := fun_mk (st := top 13) l13 c13 k13
  have F14 := fun_mk (st := top 14) l14 c14 k14
  have F15 := fun_mk (st := top 15) l15 c15 k15
  have F17 := fun_mk (st := top 17) l17 c17 k17
  have F18 := fun_mk (st := top 18) l18 c18 k18
  have F20 := fun_mk (st := top 20) l20 c20 k20
  have F21 := fun_mk (st := top 21) l21 c21 k21
  have F22 := fun_mk (st := top 22) l22 c22 k22
  have F23 := fun_mk (st := top 23) l23 c23 k23
  have F24 := fun_mk (st := top 24) l24 c24 k24
  have F25 := fun_mk (st := top 25) l25 c25 k25
  have F26 := fun_mk (st := top 26) l26 c26 k26
  have F27 := fun_mk (st := top 27) l27 c27 k27
  have F28 := fun_mk (st := top 28) l28 c28 k28
  have F48 := fun_mk (st := top 48) l48 c48 k48
  have F49 := fun_mk (st := top 49) l49 c49 k49
  have F50 := fun_mk (st := top 50) l50 c50 k50
  have F51 := fun_mk (st := top 51) l51 c51 k51
  have F56 := fun_mk (st := top 56) l56 c56 k56
  have F57 := fun_mk (st := top 57) l57 c57 k57
  have F58 := fun_mk (st := top 58) l58 c58 k58
  have F59 := fun_mk (st := top 59) l59 c59 k59
  have F60 := fun_mk (st := top 60) l60 c60 k60
  have F61 := fun_mk (st := top 61) l61 c61 k61
  have F62 := fun_mk (st := top 62) l62 c62 k62
  have F63 := fun_mk (st := top 63) l63 c63 k63
  have F64 := fun_mk (st := top 64) l64 c64 k64
  have F66 := fun_mk (st := top 66) l66 c66 k66
  have F68 := fun_mk (st := top 68) l68 c68 k68
  have F69 := fun_mk (st := top 69) l69 c69 k69
  have F70 := fun_mk (st := top 70) l70 c70 k70
  have F71 := fun_mk (st := top 71) l71 c71 k71
  have F72 := fun_mk (st := top 72) l72 c72 k72
  have F73 := fun_mk (st := top 73) l73 c73 k73
  have F74 := fun_mk (st := top 74) l74 c74 k74
  have F75 := fun_mk (st := top 75) l75 c75 k75
  have F76 := fun_mk (st := top 76) l76 c76 k76
  have F77 := fun_mk (st := top 77) l77 c77 k77
  have F78 := fun_mk (st := top 78) l78 c78 k78
  have F79 := fun_mk (st := top 79) l79 c79 k79
  have F80 := fun_mk (st := top 80) l80 c80 k80
  have F81 := fun_mk (st := top 81) l81 c81 k81
  have F82 := fun_mk (st := top 82) l82 c82 k82
  have F83 := fun_mk (st := top 83) l83 c83 k83
  have F84 := fun_mk (st := top 84) l84 c84 k84
  have F85 := fun_mk (st := top 85) l85 c85 k85
  have F86 := fun_mk (st := top 86) l86 c86 k86
  have F87 := fun_mk (st := top 87) l87 c87 k87
  have F88 := fun_mk (st := top 88) l88 c88 k88
  have F89 := fun_mk (st := top 89) l89 c89 k89
  have F90 := fun_mk (st := top 90) l90 c90 k90
  have F91 := fun_mk (st := top 91) l91 c91 k91
  have F92 := fun_mk (st := top 92) l92 c92 k92
  have F93 := fun_mk (st := top 93) l93 c93 k93
  refine ⟨PySem.W.fnOf "law" "law" (defArgs (top 93)) (defBody (top 93)) (defScope (top 93)) .none kV93 dc93 pm93 an93 cd93 ct93, fun s v => .of_eq rfl, fun base _ _ => ?_⟩
  have O__law_draw := ok__law_draw (P := l.prog) (w := w) (base := base) (T := []) bt (PySem.W.mg_of X G a69) F69
  have O_is_integer := ok_is_integer (P := l.prog) (w := w) (base := base) (T := []) bt ct (PySem.W.mg_of X G a2) F2 
  have O_normal := ok_normal (P := l.prog) (w := w) (base := base) (T := []) bt ct (PySem.W.mg_of X G a4) F4 
  have O_pair_sign := ok_pair_sign (P := l.prog) (w := w) (base := base) (T := []) bt ct (PySem.W.mg_of X G a5) F5 
  have O_negative := ok_negative (P := l.prog) (w := w) (base := base) (T := []) bt ct (PySem.W.mg_of X G a7) F7 
  have O_times_g := ok_times_g (P := l.prog) (w := w) (base := base) (T := []) bt ct (PySem.W.mg_of X G a11) F11 
  have O_times_less := ok_times_less (P := l.prog) (w := w) (base := base) (T := []) bt ct (PySem.W.mg_of X G a12) F12 
  have O_is_whole_number := ok_is_whole_number (P := l.prog) (w := w) (base := base) (T := []) bt ct (PySem.W.mg_of X G a14) F14 
  have O_floor_integer := ok_floor_integer (P := l.prog) (w := w) (base := base) (T := []) bt ct (PySem.W.mg_of X G a15) F15 
  have O_in_order := ok_in_order (P := l.prog) (w := w) (base := base) (T := []) bt ct (PySem.W.mg_of X G a18) F18 
  have O_raw_phase := ok_raw_phase (P := l.prog) (w := w) (base := base) (T := []) bt ct (PySem.W.mg_of X G a20) F20 
  have O__law_sign := ok__law_sign (P := l.prog) (w := w) (base := base) (T := []) bt ct (PySem.W.mg_of X G a72) F72 
  have O__law_root := ok__law_root (P := l.prog) (w := w) (base := base) (T := []) bt ct (PySem.W.mg_of X G a74) F74 
  have O__law_common := ok__law_common (P := l.prog) (w := w) (base := base) (T := []) bt ct (PySem.W.mg_of X G a76) F76 
  have O__law_keys := ok__law_keys (P := l.prog) (w := w) (base := base) (T := []) bt ct (PySem.W.mg_of X G a78) F78 
  have O__law_whole := ok__law_whole (P := l.prog) (w := w) (base := base) (T := []) bt ct (PySem.W.mg_of X G a79) F79 
  have O__law_phase := ok__law_phase (P := l.prog) (w := w) (base := base) (T := []) bt ct (PySem.W.mg_of X G a83) F83 
  have O__law_bar_height := ok__law_bar_height (P := l.prog) (w := w) (base := base) (T := []) bt ct (PySem.W.mg_of X G a85) F85 
  have O__law_same := ok__law_same (P := l.prog) (w := w) (base := base) (T := []) bt ct (PySem.W.mg_of X G a86) F86 
  have O_is_number := ok_is_number (P := l.prog) (w := w) (base := base) (T := []) bt ct (PySem.W.mg_of X G a3) F3 O_is_integer
  have O_compared := ok_compared (P := l.prog) (w := w) (base := base) (T := []) bt ct (PySem.W.mg_of X G a6) F6 O_pair_sign
  have O_added := ok_added (P := l.prog) (w := w) (base := base) (T := []) bt ct (PySem.W.mg_of X G a8) F8 O_normal
  have O_multiplied := ok_multiplied (P := l.prog) (w := w) (base := base) (T := []) bt ct (PySem.W.mg_of X G a10) F10 O_normal
  have O_is_direction := ok_is_direction (P := l.prog) (w := w) (base := base) (T := []) bt ct (PySem.W.mg_of X G a17) F17 O_is_integer
  have O_phase_sign := ok_phase_sign (P := l.prog) (w := w) (base := base) (T := []) bt ct (PySem.W.mg_of X G a21) F21 O_raw_phase O_pair_sign
  have O_height_by := ok_height_by (P := l.prog) (w := w) (base := base) (T := []) bt ct (PySem.W.mg_of X G a26) F26 O_normal
  have O_whole_directions := ok_whole_directions (P := l.prog) (w := w) (base := base) (T := []) bt ct (PySem.W.mg_of X G a49) F49 O_is_whole_number
  have O__law_pick := ok__law_pick (P := l.prog) (w := w) (base := base) (T := []) bt ct (PySem.W.mg_of X G a70) F70 O__law_draw
  have O__law_number := ok__law_number (P := l.prog) (w := w) (base := base) (T := []) bt ct (PySem.W.mg_of X G a71) F71 O__law_draw
  have O__law_tie := ok__law_tie (P := l.prog) (w := w) (base := base) (T := []) bt ct (PySem.W.mg_of X G a73) F73 O__law_sign
  have O__law_under := ok__law_under (P := l.prog) (w := w) (base := base) (T := []) bt ct (PySem.W.mg_of X G a75) F75 O__law_root
  have O__law_golden := ok__law_golden (P := l.prog) (w := w) (base := base) (T := []) bt ct (PySem.W.mg_of X G a77) F77 O__law_common
  have O__law_sides := ok__law_sides (P := l.prog) (w := w) (base := base) (T := []) bt ct (PySem.W.mg_of X G a80) F80 O__law_whole
  have O__law_compared := ok__law_compared (P := l.prog) (w := w) (base := base) (T := []) bt ct (PySem.W.mg_of X G a88) F88 O__law_bar_height O__law_sign
  have O_taken := ok_taken (P := l.prog) (w := w) (base := base) (T := []) bt ct (PySem.W.mg_of X G a9) F9 O_added O_negative
  have O_divided := ok_divided (P := l.prog) (w := w) (base := base) (T := []) bt ct (PySem.W.mg_of X G a13) F13 O_multiplied O_normal
  have O_floor_has_bar := ok_floor_has_bar (P := l.prog) (w := w) (base := base) (T := []) bt ct (PySem.W.mg_of X G a22) F22 O_phase_sign
  have O_is_long := ok_is_long (P := l.prog) (w := w) (base := base) (T := []) bt ct (PySem.W.mg_of X G a23) F23 O_phase_sign
  have O_sides_of := ok_sides_of (P := l.prog) (w := w) (base := base) (T := []) bt ct (PySem.W.mg_of X G a50) F50 O_whole_directions
  have O_is_bar := ok_is_bar (P := l.prog) (w := w) (base := base) (T := []) bt ct (PySem.W.mg_of X G a56) F56 O_is_direction O_is_integer
  have O_need_direction := ok_need_direction (P := l.prog) (w := w) (base := base) (T := []) bt ct (PySem.W.mg_of X G a58) F58 O_is_direction
  have O_is_point := ok_is_point (P := l.prog) (w := w) (base := base) (T := []) bt ct (PySem.W.mg_of X G a66) F66 O_compared O_added O_times_less O_is_number
  have O__law_world := ok__law_world (P := l.prog) (w := w) (base := base) (T := []) bt ct (PySem.W.mg_of X G a81) F81 O__law_pick O__law_draw O__law_keys O__law_sides O__law_number
  have O__law_bar := ok__law_bar (P := l.prog) (w := w) (base := base) (T := []) bt ct (PySem.W.mg_of X G a84) F84 O__law_under O__law_phase O__law_tie
  have O__law_place := ok__law_place (P := l.prog) (w := w) (base := base) (T := []) bt ct (PySem.W.mg_of X G a87) F87 O__law_number O__law_whole O__law_draw
  have O_next_bar := ok_next_bar (P := l.prog) (w := w) (base := base) (T := []) bt ct (PySem.W.mg_of X G a24) F24 O_is_long
  have O_bar_by := ok_bar_by (P := l.prog) (w := w) (base := base) (T := []) bt ct (PySem.W.mg_of X G a25) F25 O_floor_has_bar O_floor_integer O_times_less
  have O_point_with := ok_point_with (P := l.prog) (w := w) (base := base) (T := []) bt ct (PySem.W.mg_of X G a28) F28 O_in_order O_times_g O_taken O_added O_times_less O_normal
  have O_keys_from := ok_keys_from (P := l.prog) (w := w) (base := base) (T := []) bt ct (PySem.W.mg_of X G a48) F48 O_normal O_taken O_negative O_times_g
  have O_is_side := ok_is_side (P := l.prog) (w := w) (base := base) (T := []) bt ct (PySem.W.mg_of X G a51) F51 O_sides_of O_is_integer
  have O_need_bar := ok_need_bar (P := l.prog) (w := w) (base := base) (T := []) bt ct (PySem.W.mg_of X G a57) F57 O_is_bar
  have O_has_bar := ok_has_bar (P := l.prog) (w := w) (base := base) (T := []) bt ct (PySem.W.mg_of X G a59) F59 O_is_bar O_floor_has_bar
  have O__law_below := ok__law_below (P := l.prog) (w := w) (base := base) (T := []) bt ct (PySem.W.mg_of X G a89) F89 O__law_under O__law_compared O__law_bar
  have O__law_height := ok__law_height (P := l.prog) (w := w) (base := base) (T := []) bt ct (PySem.W.mg_of X G a90) F90 O__law_bar_height O__law_pick O__law_bar O__law_draw
  have O_bar_below_by := ok_bar_below_by (P := l.prog) (w := w) (base := base) (T := []) bt ct (PySem.W.mg_of X G a27) F27 O_taken O_floor_integer O_bar_by O_next_bar O_added O_multiplied O_divided O_compared O_height_by
  have FI_Floor := fund_mk (K := K) (dvs := [(.ref Ty13)]) lI_Floor cI_Floor kI_Floor (by simp) ddI_Floor rfl (.cons ((show RelV (.ref Ty13) (.ref Ty13) from rfl)) .nil)
  have O_Floor := ok_Floor (P := l.prog) (w := w) (base := base) (T := []) bt ct m_Floor ⟨m1_Floor, m2_Floor, m3_Floor, m4_Floor⟩ FI_Floor (by simp) (fun F => (.cons (rep_ktup (K := ⟨K, mg⟩) Fy13 (show (5 : Nat) ≤ sizeLine by decide) (.cons (relv_int 0 y14) (.cons (relv_int 0 y15) (.cons (relv_int 0 y16) (.cons (relv_int 0 y17) (.cons (relv_int 0 y18) .nil))))) (fun F => (.cons (.int _) (.cons (.int _) (.cons (.int _) (.cons (.int _) (.cons (.int _) .nil)))))) F) .nil)) O_keys_from O_is_side O_is_number
  have O_phase_of := ok_phase_of (P := l.prog) (w := w) (base := base) (T := []) bt ct (PySem.W.mg_of X G a60) F60 O_need_bar O_raw_phase O_normal
  have O_height_of := ok_height_of (P := l.prog) (w := w) (base := base) (T := []) bt ct (PySem.W.mg_of X G a61) F61 O_need_bar O_height_by
  have O_crossing_of := ok_crossing_of (P := l.prog) (w := w) (base := base) (T := []) bt ct (PySem.W.mg_of X G a64) F64 O_need_bar O_point_with O_height_by
  have O_bar_below := ok_bar_below (P := l.prog) (w := w) (base := base) (T := []) bt ct (PySem.W.mg_of X G a62) F62 O_need_direction O_bar_below_by O_is_number
  have O_bars_between := ok_bars_between (P := l.prog) (w := w) (base := base) (T := []) bt ct (PySem.W.mg_of X G a63) F63 O_need_direction O_bar_below_by O_compared O_next_bar O_is_number O_height_by
  have OW_bars_between := okw_of (y := "most") (i := 400) O_bars_between (PySem.W.mg_of X G a63) l63 c63 k63 kw63
  have O__law_is_crossing_right := ok__law_is_crossing_right (P := l.prog) (w := w) (base := base) (T := []) bt ct (PySem.W.mg_of X G a92) F92 O_crossing_of O__law_same O__law_draw O__law_number O__law_bar_height O__law_golden O_is_point O_height_of
  have O__law_floor := ok__law_floor (P := l.prog) (w := w) (base := base) (T := []) bt ct (PySem.W.mg_of X G a82) F82 O__law_pick O_Floor
  have O__law_told := ok__law_told (P := l.prog) (w := w) (base := base) (T := []) bt ct (PySem.W.mg_of X G a91) F91 O_bars_between OW_bars_between
  exact ok_law bt (PySem.W.mg_of X G a68) F68 F93 O__law_world O__law_place O__law_height O__law_pick O__law_floor O__law_draw O__law_below O__law_same O__law_compared O__law_phase O_bar_below O__law_bar O__law_told O__law_is_crossing_right O__law_number O_phase_of O__law_golden O_has_bar
end K65

open PySem PySem.W PyProof.Rows in
set_option maxRecDepth 100000 in
set_option maxHeartbeats 0 in
theorem PySem.Challenge.cw_nevertwice_k65_bars_by_height_and_their_holds : PySem.Challenge.rw_nevertwice_k65_bars_by_height_and_their.Holds := by
  w_on; o_law; k_head; (case hw => w_witness2)
  k_fill
  refine ND.walkG (k := 8) (x := "_law_script") (l := PySem.Challenge.rw_nevertwice_k65_bars_by_height_and_their) rfl rfl ⟨rfl, by decide, by decide⟩ (fun w h Y => PySem.W.kIn_of Y) ?F
  case F =>
    intro w mg fa h KX G hmg
    refine' K65.all_ok KX G hmg ?a2 ?l2 ?c2 ?k2 ?a3 ?l3 ?c3 ?k3 ?a4 ?l4 ?c4 ?k4 ?a5 ?l5 ?c5 ?k5 ?a6 ?l6 ?c6 ?k6 ?a7 ?l7 ?c7 ?k7 ?a8 ?l8 ?c8 ?k8 ?a9 ?l9 ?c9 ?k9 ?a10 ?l10 ?c10 ?k10 ?a11 ?l11 ?c11 ?k11 ?a12 ?l12 ?c12 ?k12 ?a13 ?l13 ?c13 ?k13 ?a14 ?l14 ?c14 ?k14 ?a15 ?l15 ?c15 ?k15 ?a17 ?l17 ?c17 ?k17 ?a18 ?l18 ?c18 ?k18 ?a20 ?l20 ?c20 ?k20 ?a21 ?l21 ?c21 ?k21 ?a22 ?l22 ?c22 ?k22 ?a23 ?l23 ?c23 ?k23 ?a24 ?l24 ?c24 ?k24 ?a25 ?l25 ?c25 ?k25 ?a26 ?l26 ?c26 ?k26 ?a27 ?l27 ?c27 ?k27 ?a28 ?l28 ?c28 ?k28 ?a48 ?l48 ?c48 ?k48 ?a49 ?l49 ?c49 ?k49 ?a50 ?l50 ?c50 ?k50 ?a51 ?l51 ?c51 ?k51 ?a56 ?l56 ?c56 ?k56 ?a57 ?l57 ?c57 ?k57 ?a58 ?l58 ?c58 ?k58 ?a59 ?l59 ?c59 ?k59 ?a60 ?l60 ?c60 ?k60 ?a61 ?l61 ?c61 ?k61 ?a62 ?l62 ?c62 ?k62 ?a63 ?l63 ?c63 ?k63 ?a64 ?l64 ?c64 ?k64 ?a66 ?l66 ?c66 ?k66 ?a68 ?l68 ?c68 ?k68 ?a69 ?l69 ?c69 ?k69 ?a70 ?l70 ?c70 ?k70 ?a71 ?l71 ?c71 ?k71 ?a72 ?l72 ?c72 ?k72 ?a73 ?l73 ?c73 ?k73 ?a74 ?l74 ?c74 ?k74 ?a75 ?l75 ?c75 ?k75 ?a76 ?l76 ?c76 ?k76 ?a77 ?l77 ?c77 ?k77 ?a78 ?l78 ?c78 ?k78 ?a79 ?l79 ?c79 ?k79 ?a80 ?l80 ?c80 ?k80 ?a81 ?l81 ?c81 ?k81 ?a82 ?l82 ?c82 ?k82 ?a83 ?l83 ?c83 ?k83 ?a84 ?l84 ?c84 ?k84 ?a85 ?l85 ?c85 ?k85 ?a86 ?l86 ?c86 ?k86 ?a87 ?l87 ?c87 ?k87 ?a88 ?l88 ?c88 ?k88 ?a89 ?l89 ?c89 ?k89 ?a90 ?l90 ?c90 ?k90 ?a91 ?l91 ?c91 ?k91 ?a92 ?l92 ?c92 ?k92 ?a93 ?l93 ?c93 ?k93 ?kw63 ?z_abs ?z_all ?z_bool ?z_int ?z_isinstance ?z_len ?z_list ?z_max ?z_range ?z_repr ?z_sorted ?z_tuple ?z_gcd ?z_isqrt ?e1_BadBar ?e4_BadBar ?e5_BadBar ?x1_BadBar ?x2_BadBar ?x3_BadBar ?x4_BadBar ?x5_BadBar ?x6_BadBar ?x7_BadBar ?e3_BadBar ?x9_BadBar ?y1_BadBar ?y2_BadBar ?y3_BadBar ?g1_BadBar ?g2_BadBar ?g3_BadBar ?g4_BadBar ?e1_BadDirection ?e4_BadDirection ?e5_BadDirection ?x1_BadDirection ?x2_BadDirection ?x3_BadDirection ?x4_BadDirection ?x5_BadDirection ?x6_BadDirection ?x7_BadDirection ?e3_BadDirection ?x9_BadDirection ?y1_BadDirection ?y2_BadDirection ?y3_BadDirection ?g1_BadDirection ?g2_BadDirection ?g3_BadDirection ?g4_BadDirection ?e1_BadNumber ?e4_BadNumber ?e5_BadNumber ?x1_BadNumber ?x2_BadNumber ?x3_BadNumber ?x4_BadNumber ?x5_BadNumber ?x6_BadNumber ?x7_BadNumber ?e3_BadNumber ?x9_BadNumber ?y1_BadNumber ?y2_BadNumber ?y3_BadNumber ?g1_BadNumber ?g2_BadNumber ?g3_BadNumber ?g4_BadNumber ?e1_BadSide ?e4_BadSide ?e5_BadSide ?x1_BadSide ?x2_BadSide ?x3_BadSide ?x4_BadSide ?x5_BadSide ?x6_BadSide ?x7_BadSide ?e3_BadSide ?x9_BadSide ?y1_BadSide ?y2_BadSide ?y3_BadSide ?g1_BadSide ?g2_BadSide ?g3_BadSide ?g4_BadSide ?e1_TooMany ?e4_TooMany ?e5_TooMany ?q1_TooMany ?x1_TooMany ?x2_TooMany ?x3_TooMany ?x4_TooMany ?x5_TooMany ?x6_TooMany ?x7_TooMany ?e3_TooMany ?x9_TooMany ?y1_TooMany ?y2_TooMany ?y3_TooMany ?g1_TooMany ?g2_TooMany ?g3_TooMany ?g4_TooMany ?r_BadBar_TooMany ?r_BadDirection_TooMany ?r_BadNumber_TooMany ?r_BadSide_TooMany ?r_TooMany_TooMany ?d1 ?d2 ?G_FIRST_SIDE ?Fy1 ?G_NO_SIDE ?Fy7 ?gn ?gt ?o1_Floor ?o2_Floor ?o3_Floor ?o4_Floor ?o5_Floor ?o6_Floor ?o7_Floor ?of_Floor_all_keys ?of_Floor_side ?ob_Floor_NoneType ?ot_Floor_NoneType ?os_Floor_NoneType ?ob_Floor_bool ?ot_Floor_bool ?os_Floor_bool ?ob_Floor_int ?ot_Floor_int ?os_Floor_int ?ob_Floor_str ?ot_Floor_str ?os_Floor_str ?ob_Floor_tuple ?ot_Floor_tuple ?os_Floor_tuple ?ob_Floor_list ?ot_Floor_list ?os_Floor_list ?ob_Floor_dict ?ot_Floor_dict ?os_Floor_dict ?oo_Floor ?m1_Floor ?m2_Floor ?m3_Floor ?m4_Floor ?lI_Floor ?cI_Floor ?kI_Floor ?ddI_Floor ?Fy13
    (case a2 => k_is)
    (case l2 => k_is)
    (case c2 => k_is)
    (case k2 => k_is)
    (case a3 => k_is)
    (case l3 => k_is)
    (case c3 => k_is)
    (case k3 => k_is)
    (case a4 => k_is)
    (case l4 => k_is)
    (case c4 => k_is)
    (case k4 => k_is)
    (case a5 => k_is)
    (case l5 => k_is)
    (case c5 => k_is)
    (case k5 => k_is)
    (case a6 => k_is)
    (case l6 => k_is)
    (case c6 => k_is)
    (case k6 => k_is)
    (case a7 => k_is)
    (case l7 => k_is)
    (case c7 => k_is)
    (case k7 => k_is)
    (case a8 => k_is)
    (case l8 => k_is)
    (case c8 => k_is)
    (case k8 => k_is)
    (case a9 => k_is)
    (case l9 => k_is)
    (case c9 => k_is)
    (case k9 => k_is)
    (case a10 => k_is)
    (case l10 => k_is)
    (case c10 => k_is)
    (case k10 => k_is)
    (case a11 => k_is)
    (case l11 => k_is)
    (case c11 => k_is)
    (case k11 => k_is)
    (case a12 => k_is)
    (case l12 => k_is)
    (case c12 => k_is)
    (case k12 => k_is)
    (case a13 => k_is)
    (case l13 => k_is)
    (case c13 => k_is)
    (case k13 => k_is)
    (case a14 => k_is)
    (case l14 => k_is)
    (case c14 => k_is)
    (case k14 => k_is)
    (case a15 => k_is)
    (case l15 => k_is)
    (case c15 => k_is)
    (case k15 => k_is)
    (case a17 => k_is)
    (case l17 => k_is)
    (case c17 => k_is)
    (case k17 => k_is)
    (case a18 => k_is)
    (case l18 => k_is)
    (case c18 => k_is)
    (case k18 => k_is)
    (case a20 => k_is)
    (case l20 => k_is)
    (case c20 => k_is)
    (case k20 => k_is)
    (case a21 => k_is)
    (case l21 => k_is)
    (case c21 => k_is)
    (case k21 => k_is)
    (case a22 => k_is)
    (case l22 => k_is)
    (case c22 => k_is)
    (case k22 => k_is)
    (case a23 => k_is)
    (case l23 => k_is)
    (case c23 => k_is)
    (case k23 => k_is)
    (case a24 => k_is)
    (case l24 => k_is)
    (case c24 => k_is)
    (case k24 => k_is)
    (case a25 => k_is)
    (case l25 => k_is)
    (case c25 => k_is)
    (case k25 => k_is)
    (case a26 => k_is)
    (case l26 => k_is)
    (case c26 => k_is)
    (case k26 => k_is)
    (case a27 => k_is)
    (case l27 => k_is)
    (case c27 => k_is)
    (case k27 => k_is)
    (case a28 => k_is)
    (case l28 => k_is)
    (case c28 => k_is)
    (case k28 => k_is)
    (case a48 => k_is)
    (case l48 => k_is)
    (case c48 => k_is)
    (case k48 => k_is)
    (case a49 => k_is)
    (case l49 => k_is)
    (case c49 => k_is)
    (case k49 => k_is)
    (case a50 => k_is)
    (case l50 => k_is)
    (case c50 => k_is)
    (case k50 => k_is)
    (case a51 => k_is)
    (case l51 => k_is)
    (case c51 => k_is)
    (case k51 => k_is)
    (case a56 => k_is)
    (case l56 => k_is)
    (case c56 => k_is)
    (case k56 => k_is)
    (case a57 => k_is)
    (case l57 => k_is)
    (case c57 => k_is)
    (case k57 => k_is)
    (case a58 => k_is)
    (case l58 => k_is)
    (case c58 => k_is)
    (case k58 => k_is)
    (case a59 => k_is)
    (case l59 => k_is)
    (case c59 => k_is)
    (case k59 => k_is)
    (case a60 => k_is)
    (case l60 => k_is)
    (case c60 => k_is)
    (case k60 => k_is)
    (case a61 => k_is)
    (case l61 => k_is)
    (case c61 => k_is)
    (case k61 => k_is)
    (case a62 => k_is)
    (case l62 => k_is)
    (case c62 => k_is)
    (case k62 => k_is)
    (case a63 => k_is)
    (case l63 => k_is)
    (case c63 => k_is)
    (case k63 => k_is)
    (case a64 => k_is)
    (case l64 => k_is)
    (case c64 => k_is)
    (case k64 => k_is)
    (case a66 => k_is)
    (case l66 => k_is)
    (case c66 => k_is)
    (case k66 => k_is)
    (case a68 => k_is)
    (case l68 => k_is)
    (case c68 => k_is)
    (case k68 => k_is)
    (case a69 => k_is)
    (case l69 => k_is)
    (case c69 => k_is)
    (case k69 => k_is)
    (case a70 => k_is)
    (case l70 => k_is)
    (case c70 => k_is)
    (case k70 => k_is)
    (case a71 => k_is)
    (case l71 => k_is)
    (case c71 => k_is)
    (case k71 => k_is)
    (case a72 => k_is)
    (case l72 => k_is)
    (case c72 => k_is)
    (case k72 => k_is)
    (case a73 => k_is)
    (case l73 => k_is)
    (case c73 => k_is)
    (case k73 => k_is)
    (case a74 => k_is)
    (case l74 => k_is)
    (case c74 => k_is)
    (case k74 => k_is)
    (case a75 => k_is)
    (case l75 => k_is)
    (case c75 => k_is)
    (case k75 => k_is)
    (case a76 => k_is)
    (case l76 => k_is)
    (case c76 => k_is)
    (case k76 => k_is)
    (case a77 => k_is)
    (case l77 => k_is)
    (case c77 => k_is)
    (case k77 => k_is)
    (case a78 => k_is)
    (case l78 => k_is)
    (case c78 => k_is)
    (case k78 => k_is)
    (case a79 => k_is)
    (case l79 => k_is)
    (case c79 => k_is)
    (case k79 => k_is)
    (case a80 => k_is)
    (case l80 => k_is)
    (case c80 => k_is)
    (case k80 => k_is)
    (case a81 => k_is)
    (case l81 => k_is)
    (case c81 => k_is)
    (case k81 => k_is)
    (case a82 => k_is)
    (case l82 => k_is)
    (case c82 => k_is)
    (case k82 => k_is)
    (case a83 => k_is)
    (case l83 => k_is)
    (case c83 => k_is)
    (case k83 => k_is)
    (case a84 => k_is)
    (case l84 => k_is)
    (case c84 => k_is)
    (case k84 => k_is)
    (case a85 => k_is)
    (case l85 => k_is)
    (case c85 => k_is)
    (case k85 => k_is)
    (case a86 => k_is)
    (case l86 => k_is)
    (case c86 => k_is)
    (case k86 => k_is)
    (case a87 => k_is)
    (case l87 => k_is)
    (case c87 => k_is)
    (case k87 => k_is)
    (case a88 => k_is)
    (case l88 => k_is)
    (case c88 => k_is)
    (case k88 => k_is)
    (case a89 => k_is)
    (case l89 => k_is)
    (case c89 => k_is)
    (case k89 => k_is)
    (case a90 => k_is)
    (case l90 => k_is)
    (case c90 => k_is)
    (case k90 => k_is)
    (case a91 => k_is)
    (case l91 => k_is)
    (case c91 => k_is)
    (case k91 => k_is)
    (case a92 => k_is)
    (case l92 => k_is)
    (case c92 => k_is)
    (case k92 => k_is)
    (case a93 => k_is)
    (case l93 => k_is)
    (case c93 => k_is)
    (case k93 => k_is)
    (case kw63 => k_is)
    (case z_abs => k_is)
    (case z_all => k_is)
    (case z_bool => k_is)
    (case z_int => k_is)
    (case z_isinstance => k_is)
    (case z_len => k_is)
    (case z_list => k_is)
    (case z_max => k_is)
    (case z_range => k_is)
    (case z_repr => k_is)
    (case z_sorted => k_is)
    (case z_tuple => k_is)
    (case z_gcd => k_is)
    (case z_isqrt => k_is)
    (case e1_BadBar => k_is)
    (case e4_BadBar => k_is)
    (case e5_BadBar => k_is)
    (case x1_BadBar => first | k_exc | k_is | kernel_rfl)
    (case x2_BadBar => first | k_exc | k_is | kernel_rfl)
    (case x3_BadBar => k_is)
    (case x4_BadBar => k_is)
    (case x5_BadBar => k_is)
    (case x6_BadBar => k_is)
    (case x7_BadBar => k_is)
    (case e3_BadBar => k_is)
    (case x9_BadBar => k_is)
    (case y1_BadBar => k_is)
    (case y2_BadBar => k_is)
    (case y3_BadBar => k_is)
    (case g1_BadBar => k_is)
    (case g2_BadBar => k_is)
    (case g3_BadBar => k_is)
    (case g4_BadBar => k_is)
    (case e1_BadDirection => k_is)
    (case e4_BadDirection => k_is)
    (case e5_BadDirection => k_is)
    (case x1_BadDirection => first | k_exc | k_is | kernel_rfl)
    (case x2_BadDirection => first | k_exc | k_is | kernel_rfl)
    (case x3_BadDirection => k_is)
    (case x4_BadDirection => k_is)
    (case x5_BadDirection => k_is)
    (case x6_BadDirection => k_is)
    (case x7_BadDirection => k_is)
    (case e3_BadDirection => k_is)
    (case x9_BadDirection => k_is)
    (case y1_BadDirection => k_is)
    (case y2_BadDirection => k_is)
    (case y3_BadDirection => k_is)
    (case g1_BadDirection => k_is)
    (case g2_BadDirection => k_is)
    (case g3_BadDirection => k_is)
    (case g4_BadDirection => k_is)
    (case e1_BadNumber => k_is)
    (case e4_BadNumber => k_is)
    (case e5_BadNumber => k_is)
    (case x1_BadNumber => first | k_exc | k_is | kernel_rfl)
    (case x2_BadNumber => first | k_exc | k_is | kernel_rfl)
    (case x3_BadNumber => k_is)
    (case x4_BadNumber => k_is)
    (case x5_BadNumber => k_is)
    (case x6_BadNumber => k_is)
    (case x7_BadNumber => k_is)
    (case e3_BadNumber => k_is)
    (case x9_BadNumber => k_is)
    (case y1_BadNumber => k_is)
    (case y2_BadNumber => k_is)
    (case y3_BadNumber => k_is)
    (case g1_BadNumber => k_is)
    (case g2_BadNumber => k_is)
    (case g3_BadNumber => k_is)
    (case g4_BadNumber => k_is)
    (case e1_BadSide => k_is)
    (case e4_BadSide => k_is)
    (case e5_BadSide => k_is)
    (case x1_BadSide => first | k_exc | k_is | kernel_rfl)
    (case x2_BadSide => first | k_exc | k_is | kernel_rfl)
    (case x3_BadSide => k_is)
    (case x4_BadSide => k_is)
    (case x5_BadSide => k_is)
    (case x6_BadSide => k_is)
    (case x7_BadSide => k_is)
    (case e3_BadSide => k_is)
    (case x9_BadSide => k_is)
    (case y1_BadSide => k_is)
    (case y2_BadSide => k_is)
    (case y3_BadSide => k_is)
    (case g1_BadSide => k_is)
    (case g2_BadSide => k_is)
    (case g3_BadSide => k_is)
    (case g4_BadSide => k_is)
    (case e1_TooMany => k_is)
    (case e4_TooMany => k_is)
    (case e5_TooMany => k_is)
    (case q1_TooMany => first | k_is | kernel_rfl)
    (case x1_TooMany => first | k_exc | k_is | kernel_rfl)
    (case x2_TooMany => first | k_exc | k_is | kernel_rfl)
    (case x3_TooMany => k_is)
    (case x4_TooMany => k_is)
    (case x5_TooMany => k_is)
    (case x6_TooMany => k_is)
    (case x7_TooMany => k_is)
    (case e3_TooMany => k_is)
    (case x9_TooMany => k_is)
    (case y1_TooMany => k_is)
    (case y2_TooMany => k_is)
    (case y3_TooMany => k_is)
    (case g1_TooMany => k_is)
    (case g2_TooMany => k_is)
    (case g3_TooMany => k_is)
    (case g4_TooMany => k_is)
    (case r_BadBar_TooMany => k_is)
    (case r_BadDirection_TooMany => k_is)
    (case r_BadNumber_TooMany => k_is)
    (case r_BadSide_TooMany => k_is)
    (case r_TooMany_TooMany => k_is)
    (case d1 => kernel_rfl)
    (case d2 => k_is)
    (case G_FIRST_SIDE => k_is)
    (case Fy1 => k_is)
    (case G_NO_SIDE => k_is)
    (case Fy7 => k_is)
    (case gn => k_is)
    (case gt => k_is)
    (case o1_Floor => k_is)
    (case o2_Floor => first | k_is | kernel_rfl)
    (case o3_Floor => first | k_is | kernel_rfl)
    (case o4_Floor => first | k_is | kernel_rfl)
    (case o5_Floor => k_is)
    (case o6_Floor => k_is)
    (case o7_Floor => k_is)
    (case of_Floor_all_keys => k_is)
    (case of_Floor_side => k_is)
    (case ob_Floor_NoneType => kit_is)
    (case ot_Floor_NoneType => kit_is)
    (case os_Floor_NoneType => k_is)
    (case ob_Floor_bool => kit_is)
    (case ot_Floor_bool => kit_is)
    (case os_Floor_bool => k_is)
    (case ob_Floor_int => kit_is)
    (case ot_Floor_int => kit_is)
    (case os_Floor_int => k_is)
    (case ob_Floor_str => kit_is)
    (case ot_Floor_str => kit_is)
    (case os_Floor_str => k_is)
    (case ob_Floor_tuple => kit_is)
    (case ot_Floor_tuple => kit_is)
    (case os_Floor_tuple => k_is)
    (case ob_Floor_list => kit_is)
    (case ot_Floor_list => kit_is)
    (case os_Floor_list => k_is)
    (case ob_Floor_dict => kit_is)
    (case ot_Floor_dict => kit_is)
    (case os_Floor_dict => k_is)
    (case oo_Floor => kit_is)
    (case m1_Floor => first | k_is | kernel_rfl)
    (case m2_Floor => k_is)
    (case m3_Floor => first | k_is | kernel_rfl)
    (case m4_Floor => k_is)
    (case lI_Floor => k_is)
    (case cI_Floor => k_is)
    (case kI_Floor => k_is)
    (case ddI_Floor => k_is)
    (case Fy13 => k_is)

